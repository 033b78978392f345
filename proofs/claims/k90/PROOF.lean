import PyProof.Rows.All
import Wide.All
import OpenK.AllK
import Wide.FinOn
import HandS.ForMost
import HandS.ForExc
import HandS.Deep
import HandS.TupAny
import HandS.TupMul
import HandS.Wide
import HandS.IsInst
import HandS.TupLe
import HandS.Flow
import HandS.NoneIn
import HandS.Style
import HandS.RaiseMore
import HandS.Codes
import PyProof.ReprRoads
import HandS.Comp
import HandS.Iter
import HandS.Exc
import HandS.ExcIs
import HandS.ExcOwn
import HandS.WordsExc
import KE.GoesMore
import KE.KUnpackStar
import PyProof.ExcBaseAll.ValueError
import HandS.Ends
import HandS.More
import HandS.Words
import HandS.HeadEnd
import HandS.Defaults
import KE.IntTextLaws
import PySem.Challenge.RW_roomprofile_k90_definition_texts
set_option Elab.async false
set_option linter.all false
set_option maxRecDepth 100000
set_option maxHeartbeats 4000000
/-! Mi: a small deterministic reader of the program's text, over data as plain values. -/
namespace Mi
open PySem

/-- a value: data, an object of the heap, a def of the module -/
inductive Vl where
  | d (x : PyData)
  | ref (n : Nat)
  | fn (n : Nat)
  | scr (xs : List Int)

/-- an object that is changed in place and met by more than one name -/
inductive Ob where
  | lst (xs : List PyData)


abbrev Sh := List Ob

/-- an error: its class, the value that it keeps -/
structure Er where
  c : Nat
  v : Option PyData

inductive R (α : Type) where
  | ok (a : α) (h : Sh)
  | ex (x : Er) (h : Sh)
  | no

@[inline] def R.bind {α β : Type} (r : R α) (f : α → Sh → R β) : R β :=
  match r with
  | .ok a h => f a h
  | .ex x h => .ex x h
  | .no => .no

/-- a local name: unset, a value, a list that this frame alone holds -/
inductive Sl where
  | no
  | v (x : Vl)
  | own (xs : List PyData)

abbrev En := List Sl

/-- built-in calls on data -/
inductive BI where
  | len | abs | min | max | sum | int | str | repr | tuple | list | all | any | sorted
  deriving DecidableEq

/-- types of isinstance -/
inductive Ty where
  | int | str | bool | tuple | list | dict
  deriving DecidableEq

/-- methods of data -/
inductive ME where
  | join | split | words | partition | count | replace | index | get
  deriving DecidableEq

/-- targets -/
inductive Tg where
  | n (i : Nat)
  | t (is : List Nat)
  | st (is : List Nat) (r : Nat)

inductive It where
  | seq | range1 | range2 | enum | zip

mutual
inductive Te where
  | cst (v : PyData)
  | var (i : Nat)
  | peek (i : Nat)
  | glob (g : Nat)
  | bin (op : Operator) (a b : Te)
  | cmp (op : CmpOp) (a b : Te)
  | chain (o1 o2 : CmpOp) (a b c : Te)
  | and (es : List Te)
  | or (es : List Te)
  | not (e : Te)
  | ite (t a b : Te)
  | neg (e : Te)
  | tup (es : List Te)
  | dict0
  | ofL (l : Tl)
  | newl (l : Tl)
  | ix (a i : Te)
  | sliceF (a lo : Te)
  | sliceT (a hi : Te)
  | sliceB (a lo hi : Te)
  | rev (a : Te)
  | call (f : Nat) (es : List Te)
  | bi (b : BI) (es : List Te)
  | isi (e : Te) (ts : List Ty)
  | me (m : ME) (r : Te) (es : List Te)
inductive Tl where
  | disp (es : List Te)
  | comp (elt : Te) (tg : Tg) (k : It) (es : List Te) (cs : List Te)
  | cat (a b : Te)
end

inductive Tm where
  | e (p : Te)
  | l (p : Tl)

/-- tests, values of an except suite -/
inductive Ht where
  | isx (c : Nat) (cls : List Nat)
  | and (a b : Ht)
  | or (a b : Ht)
  | not (a : Ht)
inductive He where
  | cst (d : PyData)
  | ite (t : Ht) (a b : He)

inductive Ts where
  | doc
  | asg (tg : Tg) (e : Te)
  | own (i : Nat) (l : Tl)
  | par (is : List Nat) (es : List Tm)
  | ownix (s : Nat) (i e : Te)
  | freeze (i : Nat)
  | aug (i : Nat) (op : Operator) (e : Te)
  | setix (r i e : Te)
  | app (s : Nat) (e : Te)
  | ext (s : Nat) (e : Te)
  | expr (e : Te)
  | ret (e : Te)
  | retN
  | iff (t : Te) (a b : List Ts)
  | for (tg : Tg) (k : It) (es : List Te) (body : List Ts)
  | while (t : Te) (body : List Ts)
  | raise (c : Nat)
  | tryE (body : List Ts) (c : Nat) (cls : List Nat) (i : Nat) (hd : He)
  | brk
  | cont
  | pass

inductive Out where
  | nx (e : En)
  | rt (v : Vl)
  | bk (e : En)
  | ct (e : En)

end Mi
namespace Mi
open PySem

/-! ### data -/
def LIM : Nat := 10 ^ 2000
def okI (i : Int) : Bool := decide (i.natAbs < LIM)
def LIS : Nat := 10 ^ 570
def okS (i : Int) : Bool := decide (i.natAbs < LIS)
def SZ : Nat := 16777216

def truD : PyData → Option Bool
  | .none => some false
  | .bool b => some b
  | .int i => some (i != 0)
  | .str x => if x.length ≤ SZ then some (decide (x.length ≠ 0)) else none
  | .list xs => some (!xs.isEmpty)
  | .tuple xs => some (!xs.isEmpty)
  | .dict _ => none
def truV : Vl → Option Bool
  | .d x => truD x
  | _ => none

def flatD : PyData → Bool
  | .none => true
  | .bool _ => true
  | .int _ => true
  | .str _ => true
  | _ => false

/-- == of data -/
def eqD : PyData → PyData → Option Bool
  | .tuple xs, .tuple [] => some xs.isEmpty
  | .list xs, .list [] => some xs.isEmpty
  | a, b => if (flatD a && flatD b) || (SeqAt.shaped a && SeqAt.shaped b) then some (PyData.eqv a b) else none

def inD (x : PyData) (ys : List PyData) : Option Bool :=
  if flatD x && ys.all flatD then some (ys.any fun y => PyData.eqv y x)
  else if SeqAt.shaped x && SeqAt.shaped (.list ys) then some (ys.any fun y => PyData.eqv y x) else none

def intsOf : List PyData → Option (List Int)
  | [] => some []
  | .int i :: r => (intsOf r).map (i :: ·)
  | _ => none
def boolsOf : List PyData → Option (List Bool)
  | [] => some []
  | .bool b :: r => (boolsOf r).map (b :: ·)
  | _ => none
def strsOf : List PyData → Option (List Str)
  | [] => some []
  | .str x :: r => (strsOf r).map (x :: ·)
  | _ => none

def repL (n : Nat) (xs : List PyData) : List PyData := (List.replicate n xs).flatten

def repS (n : Nat) (x : Str) : Str := ⟨((List.replicate n x.cps.toList).flatten).toArray⟩
def binD : Operator → PyData → PyData → Option PyData
  | .Add, .int i, .int j => some (.int (i + j))
  | .Add, .str x, .str y => if x.length + y.length ≤ SZ then some (.str (x ++ y)) else none
  | .Add, .list xs, .list ys => if xs.length + ys.length ≤ SZ then some (.list (xs ++ ys)) else none
  | .Add, .tuple xs, .tuple ys => if xs.length + ys.length ≤ SZ then some (.tuple (xs ++ ys)) else none
  | .Sub, .int i, .int j => some (.int (i - j))
  | .Mult, .int i, .int j => if okI i && okI j then some (.int (i * j)) else none
  | .Mult, .list xs, .int n => if -1000 ≤ n ∧ n ≤ 1000 ∧ xs.length ≤ 1000 then some (.list (repL n.toNat xs)) else none
  | .Mult, .tuple xs, .int n => if 2 ≤ n ∧ n ≤ 1000 ∧ xs.length ≤ 1000 ∧ xs.isEmpty = false then some (.tuple (repL n.toNat xs)) else none
  | .Mult, .str x, .int n => if 0 ≤ n ∧ n ≤ 10000 ∧ x.length ≤ 1000 then some (.str (repS n.toNat x)) else none
  | .FloorDiv, .int i, .int j => if decide (0 < j) && okI j then some (.int (i / j)) else none
  | .Mod, .int i, .int j => if 0 < j then some (.int (i % j)) else none
  | .Pow, .int i, .int j => if decide (0 ≤ j ∧ j ≤ 100) && okI i then some (.int (i ^ j.toNat)) else none
  | .BitAnd, .int i, .int j => some (.int (Builtin.bitAnd i j))
  | .BitOr, .int i, .int j => some (.int (Builtin.bitOr i j))
  | _, _, _ => none

def isN : PyData → Bool
  | .none => true
  | _ => false
/-- one sign in a text -/
def inS (x y : Str) : Option Bool :=
  match x.cps.toList with
  | [c] => some (decide (c ∈ y.cps.toList))
  | _ => none

def cmpD : CmpOp → PyData → PyData → Option Bool
  | .Eq, a, b => eqD a b
  | .NotEq, a, b => (eqD a b).map (!·)
  | .Lt, .int i, .int j => some (decide (i < j))
  | .LtE, .int i, .int j => some (decide (i ≤ j))
  | .Gt, .int i, .int j => some (decide (j < i))
  | .GtE, .int i, .int j => some (decide (j ≤ i))
  | .Is, a, .none => some (isN a)
  | .IsNot, a, .none => some (!isN a)
  | .Is, .bool a, .bool b => some (a == b)
  | .IsNot, .bool a, .bool b => some (a != b)
  | .In, x, .tuple ys => inD x ys
  | .In, x, .list ys => inD x ys
  | .In, .str x, .str y => inS x y
  | .NotIn, .str x, .str y => (inS x y).map (!·)
  | .NotIn, x, .tuple ys => (inD x ys).map (!·)
  | .NotIn, x, .list ys => (inD x ys).map (!·)
  | _, _, _ => none

def ixD : PyData → Int → Option PyData
  | .tuple xs, i => L2.atI xs i
  | .list xs, i => L2.atI xs i
  | .str x, i => if x.length ≤ SZ then (L2.atI x.cps.toList i).map fun c => .str ⟨#[c]⟩ else none
  | _, _ => none

def cut {α : Type} (xs : List α) (lo hi : Option Int) : List α :=
  (xs.drop (HT.sIx xs.length 0 lo)).take (HT.sIx xs.length xs.length hi - HT.sIx xs.length 0 lo)
def sliceD : PyData → Option Int → Option Int → Option PyData
  | .tuple xs, lo, hi => some (.tuple (cut xs lo hi))
  | .list xs, lo, hi => some (.list (cut xs lo hi))
  | .str x, lo, hi => if x.length ≤ SZ then some (.str (L2.cutS x lo hi)) else none
  | _, _, _ => none
def revD : PyData → Option PyData
  | .tuple xs => some (.tuple xs.reverse)
  | .list xs => some (.list xs.reverse)
  | .str x => if x.length ≤ SZ then some (.str ⟨x.cps.toList.reverse.toArray⟩) else none
  | _ => none

def isT : Ty → PyData → Bool
  | .int, .int _ => true
  | .int, .bool _ => true
  | .str, .str _ => true
  | .bool, .bool _ => true
  | .tuple, .tuple _ => true
  | .list, .list _ => true
  | .dict, .dict _ => true
  | _, _ => false

def maxL : List Int → Option Int
  | [] => none
  | i :: r => some (r.foldl (fun m x => if x > m then x else m) i)
def minL : List Int → Option Int
  | [] => none
  | i :: r => some (r.foldl (fun m x => if x < m then x else m) i)

def showOk (d : PyData) : Bool := d.showable && decide (d.shown.length ≤ SZ) && decide (d.depth ≤ 150)

def biD : BI → List PyData → Option PyData
  | .len, [.tuple xs] => some (.int xs.length)
  | .len, [.list xs] => some (.int xs.length)
  | .len, [.str x] => if x.length ≤ SZ then some (.int x.length) else none
  | .abs, [.int i] => some (.int (if i < 0 then -i else i))
  | .max, [.int i, .int j] => some (.int (if j > i then j else i))
  | .min, [.int i, .int j] => some (.int (if j < i then j else i))
  | .max, [.list xs] => (intsOf xs).bind fun ns => (maxL ns).map .int
  | .min, [.list xs] => (intsOf xs).bind fun ns => (minL ns).map .int
  | .sum, [.list xs] => (intsOf xs).map fun ns => .int ns.sum
  | .int, [.int i] => some (.int i)
  | .int, [.bool b] => some (.int (if b then 1 else 0))
  | .int, [.str x] => if x.length ≤ 640 then (intText? x).map .int else none
  | .str, [.int i] => if okS i then some (.str (Str.ofString (toString i))) else none
  | .str, [.str x] => some (.str x)
  | .repr, [d] => if showOk d then some (.str d.shown) else none
  | .tuple, [.list xs] => some (.tuple xs)
  | .tuple, [.tuple xs] => some (.tuple xs)
  | .list, [.list xs] => some (.list xs)
  | .list, [.tuple xs] => some (.list xs)
  | .all, [.list xs] => (boolsOf xs).map fun bs => .bool (bs.all id)
  | .any, [.list xs] => (boolsOf xs).map fun bs => .bool (bs.any id)
  | _, _ => none

def meD : ME → PyData → List PyData → Option PyData
  | .join, .str a, [.list xs] => (strsOf xs).bind fun ys => if (ys.map (·.length)).sum + ys.length * a.length ≤ SZ then some (.str (Txt.join a ys)) else none
  | .split, .str a, [.str b] => if (b.length == 0) = false ∧ a.length + 2 ≤ SZ then some (.list ((Txt.split a b).map .str)) else none
  | .words, .str a, [] => if a.length + 2 ≤ SZ then some (.list ((Txt.words a).map .str)) else none
  | .partition, .str a, [.str b] => if (b.length == 0) = false ∧ a.length ≤ SZ then some (.tuple [.str (Txt.partition a b).1, .str (Txt.partition a b).2.1, .str (Txt.partition a b).2.2]) else none
  | .count, .str a, [.str b] => some (.int (Txt.count a b))
  | .index, .str a, [.str b] => (PySem.Builtin.Str.occurrences a b 0 a.length 1).head?.map fun (i : Nat) => PyData.int (i : Int)
  | _, _, _ => none

/-! ### running -/
def lift (o : Option PyData) (h : Sh) : R Vl :=
  match o with
  | some x => .ok (.d x) h
  | none => .no

def datL : List Vl → Option (List PyData)
  | [] => some []
  | .d x :: r => (datL r).map (x :: ·)
  | _ => none

/-- an item of data, or of a list of the heap -/
def ixV (h : Sh) : Vl → Vl → Option PyData
  | .d x, .d (.int i) => ixD x i
  | .ref n, .d (.int i) => match h[n]? with
    | some (.lst xs) => L2.atI xs i
    | none => none
  | .scr xs, .d (.int i) => (L2.atI xs i).map .int
  | _, _ => none
/-- len, of a list of the heap too -/
def lenV (h : Sh) : List Vl → Option PyData
  | [.ref n] => match h[n]? with
    | some (.lst xs) => some (.int xs.length)
    | none => none
  | [.scr xs] => some (.int xs.length)
  | _ => none

def bindIs : List Nat → List PyData → En → Option En
  | [], [], e => some e
  | i :: is, x :: xs, e => bindIs is xs (e.set i (.v (.d x)))
  | _, _, _ => none
def bindSt : List Nat → Nat → List PyData → En → Option En
  | [], r, xs, e => some (e.set r (.v (.d (.list xs))))
  | i :: is, r, x :: xs, e => bindSt is r xs (e.set i (.v (.d x)))
  | _, _, _, _ => none
def bindTg : Tg → Vl → En → Option En
  | .n i, x, e => some (e.set i (.v x))
  | .t is, .d (.tuple xs), e => bindIs is xs e
  | .t is, .d (.list xs), e => bindIs is xs e
  | .st is r, .d (.tuple xs), e => bindSt is r xs e
  | _, _, _ => none
def Tg.names : Tg → List Nat
  | .n i => [i]
  | .t is => is
  | .st is r => is ++ [r]
def wipeE : List Nat → En → En
  | [], e => e
  | i :: is, e => (wipeE is e).set i .no

def pairs : Nat → List PyData → List Vl
  | _, [] => []
  | k, x :: r => .d (.tuple [.int k, x]) :: pairs (k + 1) r
def zips : List PyData → List PyData → List Vl
  | x :: xs, y :: ys => .d (.tuple [x, y]) :: zips xs ys
  | _, _ => []
def rng (lo : Int) : Nat → List Vl
  | 0 => []
  | n + 1 => .d (.int lo) :: rng (lo + 1) n
def seqD : PyData → Option (List PyData)
  | .tuple xs => some xs
  | .list xs => some xs
  | .str x => some (x.cps.toList.map fun c => .str ⟨#[c]⟩)
  | _ => none
def evIt : It → List Vl → Option (List Vl)
  | .seq, [.d x] => (seqD x).map fun xs => xs.map .d
  | .range1, [.d (.int n)] => if -1000000 ≤ n ∧ n ≤ 1000000 then some (rng 0 n.toNat) else none
  | .range2, [.d (.int i), .d (.int j)] => if -1000000 ≤ i ∧ i ≤ 1000000 ∧ -1000000 ≤ j ∧ j ≤ 1000000 then some (rng i (j - i).toNat) else none
  | .enum, [.d (.list xs)] => some (pairs 0 xs)
  | .enum, [.d (.tuple xs)] => some (pairs 0 xs)
  | .zip, [.d (.list xs), .d (.list ys)] => some (zips xs ys)
  | _, _ => none

def noEx {α : Type} : R α → R α
  | .ok a h => .ok a h
  | .ex _ _ => .no
  | .no => .no

def compLoop (tg : Tg) (cond : En → Sh → R Bool) (elt : En → Sh → R Vl) (env : En) : List Vl → Sh → R (List PyData)
  | [], h => .ok [] h
  | x :: xs, h =>
    match bindTg tg x env with
    | none => .no
    | some env' => (noEx (cond env' h)).bind fun b h1 =>
      if b then (noEx (elt env' h1)).bind fun y h2 =>
        match y with
        | .d y => (compLoop tg cond elt env xs h2).bind fun ys h3 => .ok (y :: ys) h3
        | _ => .no
      else compLoop tg cond elt env xs h1

mutual
def evE (C : Nat → List Vl → Sh → R Vl) (G : Nat → Option PyData) : Te → En → Sh → R Vl
  | .cst v, _, h => .ok (.d v) h
  | .var i, env, h => match env[i]? with
    | some (.v x) => .ok x h
    | _ => .no
  | .peek i, env, h => match env[i]? with
    | some (.v x) => .ok x h
    | some (.own xs) => .ok (.d (.list xs)) h
    | _ => .no
  | .glob g, _, h => lift (G g) h
  | .bin op a b, env, h => (evE C G a env h).bind fun x h1 => (evE C G b env h1).bind fun y h2 =>
    match x, y with
    | .d x, .d y => lift (binD op x y) h2
    | _, _ => .no
  | .cmp op a b, env, h => (evE C G a env h).bind fun x h1 => (evE C G b env h1).bind fun y h2 =>
    match x, y with
    | .d x, .d y => lift ((cmpD op x y).map .bool) h2
    | _, _ => .no
  | .chain o1 o2 a b c, env, h => (evE C G a env h).bind fun x h1 => (evE C G b env h1).bind fun y h2 =>
    match x, y with
    | .d x, .d y => match cmpD o1 x y with
      | some true => (evE C G c env h2).bind fun z h3 => match z with
        | .d z => lift ((cmpD o2 y z).map .bool) h3
        | _ => .no
      | some false => .ok (.d (.bool false)) h2
      | none => .no
    | _, _ => .no
  | .and es, env, h => evAnd C G es env h
  | .or es, env, h => evOr C G es env h
  | .not e, env, h => (evE C G e env h).bind fun x h1 => match truV x with
    | some b => .ok (.d (.bool (!b))) h1
    | none => .no
  | .ite t a b, env, h => (evE C G t env h).bind fun x h1 => match truV x with
    | some true => evE C G a env h1
    | some false => evE C G b env h1
    | none => .no
  | .neg e, env, h => (evE C G e env h).bind fun x h1 => match x with
    | .d (.int i) => .ok (.d (.int (-i))) h1
    | _ => .no
  | .tup es, env, h => (evEs C G es env h).bind fun xs h1 => match datL xs with
    | some ds => if ds.length ≤ SZ then .ok (.d (.tuple ds)) h1 else .no
    | none => .no
  | .dict0, _, h => .ok (.d (.dict [])) h
  | .ofL l, env, h => (evL C G l env h).bind fun xs h1 => .ok (.d (.list xs)) h1
  | .newl l, env, h => (evL C G l env h).bind fun xs h1 => .ok (.ref h1.length) (h1 ++ [.lst xs])
  | .ix a i, env, h => (evE C G a env h).bind fun x h1 => (evE C G i env h1).bind fun y h2 => lift (ixV h2 x y) h2
  | .sliceF a lo, env, h => (evE C G a env h).bind fun x h1 => (evE C G lo env h1).bind fun y h2 =>
    match x, y with
    | .d x, .d (.int i) => lift (sliceD x (some i) none) h2
    | _, _ => .no
  | .sliceT a hi, env, h => (evE C G a env h).bind fun x h1 => (evE C G hi env h1).bind fun y h2 =>
    match x, y with
    | .d x, .d (.int i) => lift (sliceD x none (some i)) h2
    | _, _ => .no
  | .sliceB a lo hi, env, h => (evE C G a env h).bind fun x h1 => (evE C G lo env h1).bind fun y h2 =>
    match y with
    | .d (.int i) => (evE C G hi env h2).bind fun z h3 =>
      match x, z with
      | .d x, .d (.int j) => lift (sliceD x (some i) (some j)) h3
      | _, _ => .no
    | _ => .no
  | .rev a, env, h => (evE C G a env h).bind fun x h1 => match x with
    | .d x => lift (revD x) h1
    | _ => .no
  | .call f es, env, h => (evEs C G es env h).bind fun xs h1 => C f xs h1
  | .bi b es, env, h => (evEs C G es env h).bind fun xs h1 => match datL xs with
    | some ds => lift (biD b ds) h1
    | none => if b = .len then lift (lenV h1 xs) h1 else .no
  | .isi e ts, env, h => (evE C G e env h).bind fun x h1 => match x with
    | .d x => .ok (.d (.bool (ts.any fun t => isT t x))) h1
    | _ => .no
  | .me m r es, env, h => (evE C G r env h).bind fun x h1 => match x with
    | .d (.str a) => (evEs C G es env h1).bind fun xs h2 => match datL xs with
      | some ds => lift (meD m (.str a) ds) h2
      | none => .no
    | _ => .no
def evEs (C : Nat → List Vl → Sh → R Vl) (G : Nat → Option PyData) : List Te → En → Sh → R (List Vl)
  | [], _, h => .ok [] h
  | e :: r, env, h => (evE C G e env h).bind fun x h1 => (evEs C G r env h1).bind fun xs h2 => .ok (x :: xs) h2
def evAnd (C : Nat → List Vl → Sh → R Vl) (G : Nat → Option PyData) : List Te → En → Sh → R Vl
  | [], _, _ => .no
  | [e], env, h => evE C G e env h
  | e :: r, env, h => (evE C G e env h).bind fun x h1 => match truV x with
    | some true => evAnd C G r env h1
    | some false => .ok x h1
    | none => .no
def evOr (C : Nat → List Vl → Sh → R Vl) (G : Nat → Option PyData) : List Te → En → Sh → R Vl
  | [], _, _ => .no
  | [e], env, h => evE C G e env h
  | e :: r, env, h => (evE C G e env h).bind fun x h1 => match truV x with
    | some true => .ok x h1
    | some false => evOr C G r env h1
    | none => .no
def evL (C : Nat → List Vl → Sh → R Vl) (G : Nat → Option PyData) : Tl → En → Sh → R (List PyData)
  | .disp es, env, h => (evEs C G es env h).bind fun xs h1 => match datL xs with
    | some ds => if ds.length ≤ SZ then .ok ds h1 else .no
    | none => .no
  | .comp elt tg k es cs, env, h => (evEs C G es env h).bind fun xs h1 => match evIt k xs with
    | some items => if items.length ≤ SZ then compLoop tg (evC C G cs) (evE C G elt) (wipeE tg.names env) items h1 else .no
    | none => .no
  | .cat a b, env, h => (evE C G a env h).bind fun x h1 => (evE C G b env h1).bind fun y h2 =>
    match x, y with
    | .d (.list xs), .d (.list ys) => if xs.length + ys.length ≤ SZ then .ok (xs ++ ys) h2 else .no
    | _, _ => .no
def evC (C : Nat → List Vl → Sh → R Vl) (G : Nat → Option PyData) : List Te → En → Sh → R Bool
  | [], _, h => .ok true h
  | e :: r, env, h => (evE C G e env h).bind fun x h1 => match truV x with
    | some true => evC C G r env h1
    | some false => .ok false h1
    | none => .no
end

def forLoop (body : En → Sh → R Out) (tg : Tg) : List Vl → En → Sh → R Out
  | [], env, h => .ok (.nx env) h
  | x :: xs, env, h =>
    match bindTg tg x env with
    | none => .no
    | some env' => (body env' h).bind fun o h1 => match o with
      | .nx e => forLoop body tg xs e h1
      | .ct e => forLoop body tg xs e h1
      | .bk e => .ok (.nx e) h1
      | .rt v => .ok (.rt v) h1

def whLoop (test : En → Sh → R Bool) (body : En → Sh → R Out) : Nat → En → Sh → R Out
  | 0, _, _ => .no
  | k + 1, env, h => (test env h).bind fun b h1 =>
    if b then (body env h1).bind fun o h2 => match o with
      | .nx e => whLoop test body k e h2
      | .ct e => whLoop test body k e h2
      | .bk e => .ok (.nx e) h2
      | .rt v => .ok (.rt v) h2
    else .ok (.nx env) h1

def tru (r : R Vl) : R Bool := r.bind fun x h => match truV x with
  | some b => .ok b h
  | none => .no

def bindAll : List Nat → List Sl → En → Option En
  | [], [], e => some e
  | i :: is, x :: xs, e => bindAll is xs (e.set i x)
  | _, _, _ => none
def evXs (C : Nat → List Vl → Sh → R Vl) (G : Nat → Option PyData) : List Tm → En → Sh → R (List Sl)
  | [], _, h => .ok [] h
  | .e p :: r, env, h => (evE C G p env h).bind fun x h1 => (evXs C G r env h1).bind fun xs h2 => .ok (.v x :: xs) h2
  | .l p :: r, env, h => (evL C G p env h).bind fun x h1 => (evXs C G r env h1).bind fun xs h2 => .ok (.own x :: xs) h2

def evHt : Ht → Nat → Bool
  | .isx _ cls, k => cls.contains k
  | .and a b, k => evHt a k && evHt b k
  | .or a b, k => evHt a k || evHt b k
  | .not a, k => !evHt a k
def evH : He → Nat → PyData
  | .cst d, _ => d
  | .ite t a b, k => if evHt t k then evH a k else evH b k
mutual
def evS (C : Nat → List Vl → Sh → R Vl) (G : Nat → Option PyData) (W : Nat) : Ts → En → Sh → R Out
  | .asg tg e, env, h => (evE C G e env h).bind fun x h1 => match bindTg tg x env with
    | some env' => .ok (.nx env') h1
    | none => .no
  | .own i l, env, h => (evL C G l env h).bind fun xs h1 => .ok (.nx (env.set i (.own xs))) h1
  | .doc, env, h => .ok (.nx env) h
  | .par is es, env, h => (evXs C G es env h).bind fun xs h1 => match bindAll is xs env with
    | some env' => .ok (.nx env') h1
    | none => .no
  | .freeze i, env, h => match env[i]? with
    | some (.own xs) => .ok (.nx (env.set i (.v (.d (.list xs))))) h
    | _ => .no
  | .aug i op e, env, h => match env[i]? with
    | some (.v (.d x)) => (evE C G e env h).bind fun y h1 => match y with
      | .d y => if flatD x then match binD op x y with
        | some z => .ok (.nx (env.set i (.v (.d z)))) h1
        | none => .no
        else .no
      | _ => .no
    | _ => .no
  | .setix r i e, env, h => (evE C G e env h).bind fun v h1 => (evE C G r env h1).bind fun x h2 => (evE C G i env h2).bind fun y h3 =>
    match v, x, y with
    | .d v, .ref n, .d (.int j) => match h3[n]? with
      | some (.lst xs) => match L2.ixN xs.length j with
        | some k => .ok (.nx env) (h3.set n (.lst (xs.set k v)))
        | none => .no
      | _ => .no
    | _, _, _ => .no
  | .ownix s i e, env, h => match env[s]? with
    | some (.own xs) => (evE C G e env h).bind fun v h1 => (evE C G i env h1).bind fun y h2 =>
      match v, y with
      | .d v, .d (.int j) => match L2.ixN xs.length j with
        | some k => .ok (.nx (env.set s (.own (xs.set k v)))) h2
        | none => .no
      | _, _ => .no
    | _ => .no
  | .app s e, env, h => match env[s]? with
    | some (.own xs) => (evE C G e env h).bind fun v h1 => match v with
      | .d v => if xs.length < SZ then .ok (.nx (env.set s (.own (xs ++ [v])))) h1 else .no
      | _ => .no
    | _ => .no
  | .ext s e, env, h => match env[s]? with
    | some (.own xs) => (evE C G e env h).bind fun v h1 => match v with
      | .d (.list ys) => if xs.length + ys.length ≤ SZ then .ok (.nx (env.set s (.own (xs ++ ys)))) h1 else .no
      | _ => .no
    | _ => .no
  | .expr e, env, h => (evE C G e env h).bind fun _ h1 => .ok (.nx env) h1
  | .ret e, env, h => (evE C G e env h).bind fun x h1 => .ok (.rt x) h1
  | .retN, _, h => .ok (.rt (.d .none)) h
  | .iff t a b, env, h => (tru (evE C G t env h)).bind fun c h1 => if c then evSs C G W a env h1 else evSs C G W b env h1
  | .for tg k es body, env, h => (evEs C G es env h).bind fun xs h1 => match evIt k xs with
    | some items => forLoop (evSs C G W body) tg items env h1
    | none => .no
  | .while t body, env, h => whLoop (fun e g => tru (evE C G t e g)) (evSs C G W body) W env h
  | .raise c, env, h => .ex ⟨c, none⟩ h
  | .tryE body c cls i hd, env, h => match evSs C G W body env h with
    | .ex e h' => if cls.contains e.c then (match e.v with
      | none => .ok (.rt (.d (evH hd e.c))) h'
      | some _ => .no) else .ex e h'
    | r => r
  | .brk, env, h => .ok (.bk env) h
  | .cont, env, h => .ok (.ct env) h
  | .pass, env, h => .ok (.nx env) h
def evSs (C : Nat → List Vl → Sh → R Vl) (G : Nat → Option PyData) (W : Nat) : List Ts → En → Sh → R Out
  | [], env, h => .ok (.nx env) h
  | s :: r, env, h => (evS C G W s env h).bind fun o h1 => match o with
    | .nx e => evSs C G W r e h1
    | o => .ok o h1
end

/-- a def: parameters, names, body -/
structure Fd where
  ps : Nat
  n : Nat
  body : List Ts
  df : List PyData

def startE (n : Nat) (xs : List Vl) : En := xs.map .v ++ List.replicate (n - xs.length) .no

/-- a call, k calls deep at most -/
def callF (Φ : Nat → Option Fd) (G : Nat → Option PyData) (W : Nat) : Nat → Nat → List Vl → Sh → R Vl
  | 0, _, _, _ => .no
  | k + 1, f, xs, h => match Φ f with
    | some F => if xs.length = F.ps then (evSs (callF Φ G W k) G W F.body (startE F.n xs) h).bind fun o h1 => match o with
        | .rt v => .ok v h1
        | .nx _ => .ok (.d .none) h1
        | _ => .no
      else if xs.length + F.df.length = F.ps then (evSs (callF Φ G W k) G W F.body (startE F.n (xs ++ F.df.map .d)) h).bind fun o h1 => match o with
        | .rt v => .ok v h1
        | .nx _ => .ok (.d .none) h1
        | _ => .no
      else .no
    | none => .no
end Mi
/-! Mi: data at abstract values; the heap of the reader beside the hand layer's. -/
namespace Mi
open PySem PySem.Spec PyProof.Rows L2
abbrev Sg := L2.St

def keyD : PyData → Option Key
  | .int i => some (.inl i)
  | .str x => some (.inr x)
  | _ => none

mutual
def Rp (K : PySem.W.Frag) (Z : Hp) : PyData → V → Prop
  | .none, v => v = .non
  | .bool b, v => v = .bl b
  | .int i, v => v = .int i
  | .str x, v => v = .str x
  | .list xs, v => ∃ a vs, v = .ref a ∧ Z a = some (.lst vs) ∧ RpL K Z xs vs
  | .tuple xs, v => ∃ a vs, v = .ref a ∧ SqT K Z a vs ∧ RpL K Z xs vs
  | .dict kvs, v => ∃ a l, v = .ref a ∧ Z a = some (.dK l) ∧ RpM K Z kvs l
def RpL (K : PySem.W.Frag) (Z : Hp) : List PyData → List V → Prop
  | [], vs => vs = []
  | x :: xs, vs => ∃ v r, vs = v :: r ∧ Rp K Z x v ∧ RpL K Z xs r
def RpM (K : PySem.W.Frag) (Z : Hp) : List (PyData × PyData) → List (Key × V) → Prop
  | [], l => l = []
  | (k, d) :: r, l => ∃ q v t, l = (q, v) :: t ∧ keyD k = some q ∧ Rp K Z d v ∧ RpM K Z r t
end

section
variable {K : PySem.W.Frag} {Z Z' : Hp}
theorem sqL_mono (m : ∀ a o, Z a = some o → Z' a = some o) {a : Addr} {vs : List V} (h : SqL K Z a vs) : SqL K Z' a vs := by
  rcases h with (h | ⟨o, h⟩) | h
  · exact .inl (.inl (m _ _ h))
  · exact .inl (.inr ⟨o, m _ _ h⟩)
  · exact .inr h
theorem sqT_mono (m : ∀ a o, Z a = some o → Z' a = some o) {a : Addr} {vs : List V} (h : SqT K Z a vs) : SqT K Z' a vs := by
  rcases h with (h | ⟨o, h⟩) | h
  · exact .inl (.inl (m _ _ h))
  · exact .inl (.inr ⟨o, m _ _ h⟩)
  · exact .inr h
theorem rd_mono (m : ∀ a o, Z a = some o → Z' a = some o) {a : Addr} {u : HO} (h : Rd Z a u) : Rd Z' a u := by
  rcases h with h | ⟨o, h⟩
  · exact .inl (m _ _ h)
  · exact .inr ⟨o, m _ _ h⟩
mutual
theorem Rp.mono (m : ∀ a o, Z a = some o → Z' a = some o) : ∀ (d : PyData) (v : V), Rp K Z d v → Rp K Z' d v
  | .none, _, h => by simpa only [Rp] using h
  | .bool _, _, h => by simpa only [Rp] using h
  | .int _, _, h => by simpa only [Rp] using h
  | .str _, _, h => by simpa only [Rp] using h
  | .list xs, v, h => by
    simp only [Rp] at h ⊢
    obtain ⟨a, vs, e, s, r⟩ := h
    exact ⟨a, vs, e, m _ _ s, RpL.mono m xs vs r⟩
  | .tuple xs, v, h => by
    simp only [Rp] at h ⊢
    obtain ⟨a, vs, e, s, r⟩ := h
    exact ⟨a, vs, e, sqT_mono m s, RpL.mono m xs vs r⟩
  | .dict kvs, v, h => by
    simp only [Rp] at h ⊢
    obtain ⟨a, l, e, s, r⟩ := h
    exact ⟨a, l, e, m _ _ s, RpM.mono m kvs l r⟩
theorem RpL.mono (m : ∀ a o, Z a = some o → Z' a = some o) : ∀ (ds : List PyData) (vs : List V), RpL K Z ds vs → RpL K Z' ds vs
  | [], _, h => by simpa only [RpL] using h
  | x :: xs, _, h => by
    simp only [RpL] at h ⊢
    obtain ⟨v, r, e, h1, h2⟩ := h
    exact ⟨v, r, e, Rp.mono m x v h1, RpL.mono m xs r h2⟩
theorem RpM.mono (m : ∀ a o, Z a = some o → Z' a = some o) : ∀ (ds : List (PyData × PyData)) (l : List (Key × V)), RpM K Z ds l → RpM K Z' ds l
  | [], _, h => by simpa only [RpM] using h
  | (k, d) :: xs, _, h => by
    simp only [RpM] at h ⊢
    obtain ⟨q, v, t, e, hk, h1, h2⟩ := h
    exact ⟨q, v, t, e, hk, Rp.mono m d v h1, RpM.mono m xs t h2⟩
end
theorem RpL.length : ∀ {ds : List PyData} {vs : List V}, RpL K Z ds vs → vs.length = ds.length
  | [], _, h => by
    simp only [RpL] at h
    rw [h]; rfl
  | x :: xs, _, h => by
    simp only [RpL] at h
    obtain ⟨v, r, rfl, _, h2⟩ := h
    rw [List.length_cons, List.length_cons, RpL.length h2]
theorem RpL.get : ∀ {ds : List PyData} {vs : List V} {i : Nat} {x : PyData}, RpL K Z ds vs → ds[i]? = some x → ∃ v, vs[i]? = some v ∧ Rp K Z x v
  | [], _, _, _, _, e => by simp at e
  | y :: ys, _, 0, x, h, e => by
    simp only [RpL] at h
    obtain ⟨v, r, rfl, h1, _⟩ := h
    simp at e
    subst e
    exact ⟨v, rfl, h1⟩
  | y :: ys, _, i + 1, x, h, e => by
    simp only [RpL] at h
    obtain ⟨v, r, rfl, _, h2⟩ := h
    obtain ⟨w, e1, e2⟩ := RpL.get (i := i) h2 (by simpa using e)
    exact ⟨w, by simpa using e1, e2⟩
theorem RpL.append : ∀ {ds es : List PyData} {vs ws : List V}, RpL K Z ds vs → RpL K Z es ws → RpL K Z (ds ++ es) (vs ++ ws)
  | [], _, _, _, h, g => by
    simp only [RpL] at h
    subst h
    exact g
  | x :: xs, es, _, ws, h, g => by
    simp only [RpL] at h
    obtain ⟨v, r, rfl, h1, h2⟩ := h
    show RpL K Z (x :: (xs ++ es)) (v :: (r ++ ws))
    simp only [RpL]
    exact ⟨v, _, rfl, h1, RpL.append h2 g⟩
theorem RpL.nil : RpL K Z [] [] := by simp only [RpL]
theorem RpL.cons {x : PyData} {v : V} {xs : List PyData} {vs : List V} (h : Rp K Z x v) (g : RpL K Z xs vs) : RpL K Z (x :: xs) (v :: vs) := by
  simp only [RpL]
  exact ⟨v, vs, rfl, h, g⟩
theorem RpL.take : ∀ {ds : List PyData} {vs : List V} (n : Nat), RpL K Z ds vs → RpL K Z (ds.take n) (vs.take n)
  | _, _, 0, _ => RpL.nil
  | [], _, n + 1, h => by
    simp only [RpL] at h
    subst h
    exact RpL.nil
  | x :: xs, _, n + 1, h => by
    simp only [RpL] at h
    obtain ⟨v, r, rfl, h1, h2⟩ := h
    exact RpL.cons h1 (RpL.take n h2)
theorem RpL.drop : ∀ {ds : List PyData} {vs : List V} (n : Nat), RpL K Z ds vs → RpL K Z (ds.drop n) (vs.drop n)
  | _, _, 0, h => h
  | [], _, n + 1, h => by
    simp only [RpL] at h
    subst h
    exact RpL.nil
  | x :: xs, _, n + 1, h => by
    simp only [RpL] at h
    obtain ⟨v, r, rfl, h1, h2⟩ := h
    exact RpL.drop n h2
theorem RpL.cut {ds : List PyData} {vs : List V} (h : RpL K Z ds vs) (lo hi : Option Int) : RpL K Z (Mi.cut ds lo hi) (cutV vs lo hi) := by
  unfold Mi.cut cutV
  rw [h.length]
  exact (h.drop _).take _
theorem RpL.reverse {ds : List PyData} {vs : List V} (h : RpL K Z ds vs) : RpL K Z ds.reverse vs.reverse := by
  induction ds generalizing vs with
  | nil =>
    simp only [RpL] at h
    subst h
    exact RpL.nil
  | cons x xs ih =>
    simp only [RpL] at h
    obtain ⟨v, r, rfl, h1, h2⟩ := h
    rw [List.reverse_cons, List.reverse_cons]
    exact (ih h2).append (RpL.cons h1 RpL.nil)
theorem RpL.rep {ds : List PyData} {vs : List V} (h : RpL K Z ds vs) : ∀ n : Nat, RpL K Z (repL n ds) (List.replicate n vs).flatten
  | 0 => RpL.nil
  | n + 1 => by
    unfold repL
    rw [List.replicate_succ, List.replicate_succ, List.flatten_cons, List.flatten_cons]
    exact h.append (RpL.rep h n)
theorem RpL.set {ds : List PyData} {vs : List V} (h : RpL K Z ds vs) {x : PyData} {v : V} (hx : Rp K Z x v) : ∀ k : Nat, RpL K Z (ds.set k x) (vs.set k v) := by
  induction ds generalizing vs with
  | nil =>
    intro k
    simp only [RpL] at h
    subst h
    exact RpL.nil
  | cons y ys ih =>
    intro k
    simp only [RpL] at h
    obtain ⟨w, r, rfl, h1, h2⟩ := h
    cases k with
    | zero => exact RpL.cons hx h2
    | succ k => exact RpL.cons h1 (ih h2 k)
theorem RpL.ints : ∀ {ds : List PyData} {vs : List V} {ns : List Int}, RpL K Z ds vs → intsOf ds = some ns → vs = ns.map V.int
  | [], _, ns, h, e => by
    simp only [RpL] at h
    simp only [intsOf, Option.some.injEq] at e
    subst h; subst e; rfl
  | x :: xs, _, ns, h, e => by
    simp only [RpL] at h
    obtain ⟨v, r, rfl, h1, h2⟩ := h
    cases x with
    | int i =>
      simp only [intsOf, Option.map_eq_some_iff] at e
      obtain ⟨ms, e1, rfl⟩ := e
      rw [RpL.ints h2 e1]
      simp only [Rp] at h1
      rw [h1]; rfl
    | _ => simp [intsOf] at e
theorem RpL.bools : ∀ {ds : List PyData} {vs : List V} {ns : List Bool}, RpL K Z ds vs → boolsOf ds = some ns → vs = ns.map V.bl
  | [], _, ns, h, e => by
    simp only [RpL] at h
    simp only [boolsOf, Option.some.injEq] at e
    subst h; subst e; rfl
  | x :: xs, _, ns, h, e => by
    simp only [RpL] at h
    obtain ⟨v, r, rfl, h1, h2⟩ := h
    cases x with
    | bool i =>
      simp only [boolsOf, Option.map_eq_some_iff] at e
      obtain ⟨ms, e1, rfl⟩ := e
      rw [RpL.bools h2 e1]
      simp only [Rp] at h1
      rw [h1]; rfl
    | _ => simp [boolsOf] at e
end

/-! ### the two heaps -/
structure Gh where
  Z : Hp
  ι : List Addr

def ObR (K : PySem.W.Frag) (Z H : Hp) (a : Addr) : Ob → Prop
  | .lst xs => ∃ vs, H a = some (.lst vs) ∧ RpL K Z xs vs

structure Sim (K : PySem.W.Frag) (g : Gh) (h : Sh) (H : Hp) : Prop where
  sub : ∀ a o, g.Z a = some o → H a = some o
  nd : g.ι.Nodup
  len : g.ι.length = h.length
  out : ∀ a ∈ g.ι, g.Z a = none
  obj : ∀ (n : Nat) o, h[n]? = some o → ∃ a, g.ι[n]? = some a ∧ ObR K g.Z H a o

def VlR (K : PySem.W.Frag) (g : Gh) : Vl → V → Prop
  | .d x, v => Rp K g.Z x v
  | .ref n, v => ∃ a, g.ι[n]? = some a ∧ v = .ref a
  | .fn _, _ => False
  | .scr xs, v => ∃ a, v = .ref a ∧ SqL K g.Z a (xs.map V.int)

/-- .. or a list that the frame alone holds -/
def PkR (K : PySem.W.Frag) (g : Gh) (H : Hp) (x : Vl) (v : V) : Prop :=
  VlR K g x v ∨ ∃ xs a vs, x = .d (.list xs) ∧ v = .ref a ∧ H a = some (.lst vs) ∧ a ∉ g.ι ∧ RpL K g.Z xs vs

/-- from one state to a later one -/
structure Pres (g : Gh) (H : Hp) (g' : Gh) (H' : Hp) : Prop where
  z : ∀ a o, g.Z a = some o → g'.Z a = some o
  i : ∃ t, g'.ι = g.ι ++ t
  k : ∀ a o, H a = some o → a ∉ g.ι → H' a = some o ∧ a ∉ g'.ι ∧ (g.Z a = none → g'.Z a = none)

section
variable {K : PySem.W.Frag} {g g' g'' : Gh} {H H' H'' : Hp} {h h' : Sh}
theorem Pres.refl : Pres g H g H := ⟨fun _ _ e => e, ⟨[], (List.append_nil _).symm⟩, fun _ _ e n => ⟨e, n, id⟩⟩
theorem Pres.trans (p : Pres g H g' H') (q : Pres g' H' g'' H'') : Pres g H g'' H'' := by
  refine ⟨fun a o e => q.z a o (p.z a o e), ?_, fun a o e n => ?_⟩
  · obtain ⟨t, e⟩ := p.i
    obtain ⟨u, f⟩ := q.i
    exact ⟨t ++ u, by rw [f, e, List.append_assoc]⟩
  · obtain ⟨e1, n1, z1⟩ := p.k a o e n
    obtain ⟨e2, n2, z2⟩ := q.k a o e1 n1
    exact ⟨e2, n2, fun z => z2 (z1 z)⟩
theorem Pres.ix (p : Pres g H g' H') {n : Nat} {a : Addr} (e : g.ι[n]? = some a) : g'.ι[n]? = some a := by
  obtain ⟨t, f⟩ := p.i
  rw [f, List.getElem?_append_left (List.getElem?_eq_some_iff.mp e).1]
  exact e
theorem VlR.mono (p : Pres g H g' H') {x : Vl} {v : V} (r : VlR K g x v) : VlR K g' x v := by
  cases x with
  | d x => exact Rp.mono p.z x v r
  | ref n =>
    obtain ⟨a, e, rfl⟩ := r
    exact ⟨a, p.ix e, rfl⟩
  | fn n => exact r
  | scr xs =>
    obtain ⟨a, e, q⟩ := r
    exact ⟨a, e, sqL_mono p.z q⟩
theorem PkR.mono (p : Pres g H g' H') {x : Vl} {v : V} (r : PkR K g H x v) : PkR K g' H' x v := by
  rcases r with r | ⟨xs, a, vs, e, e2, hH, n, r⟩
  · exact .inl (r.mono p)
  · obtain ⟨k1, k2, _⟩ := p.k a _ hH n
    exact .inr ⟨xs, a, vs, e, e2, k1, k2, RpL.mono p.z xs vs r⟩
theorem Sim.tracked (s : Sim K g h H) {a : Addr} (m : a ∈ g.ι) : ∃ u, H a = some u := by
  obtain ⟨n, e⟩ := List.getElem?_of_mem m
  have hn : n < h.length := by
    rw [← s.len]
    exact (List.getElem?_eq_some_iff.mp e).1
  obtain ⟨b, e2, r⟩ := s.obj n _ (List.getElem?_eq_getElem hn)
  rw [e] at e2
  cases e2
  revert r
  cases h[n] with
  | lst xs =>
    rintro ⟨vs, q, _⟩
    exact ⟨_, q⟩
/-- a new thing that never changes -/
theorem Sim.frozen (s : Sim K g h H) {p : Addr} (np : H p = none) (o : HO) : Sim K ⟨upd g.Z p o, g.ι⟩ h (upd H p o) ∧ Pres g H ⟨upd g.Z p o, g.ι⟩ (upd H p o) := by
  have zp : g.Z p = none := by
    cases e : g.Z p with
    | none => rfl
    | some u =>
      have := s.sub _ _ e
      rw [np] at this; cases this
  have nι : p ∉ g.ι := fun m => by
    obtain ⟨vs, e⟩ := s.tracked m
    rw [np] at e; cases e
  have zm : ∀ a u, g.Z a = some u → upd g.Z p o a = some u := fun a u e => by
    rw [upd_ne (fun z => by rw [z, zp] at e; cases e)]
    exact e
  refine ⟨⟨fun a u e => ?_, s.nd, s.len, fun a m => ?_, fun n u e => ?_⟩, zm, ⟨[], (List.append_nil _).symm⟩, fun a u e n => ?_⟩
  · have e' : upd g.Z p o a = some u := e
    by_cases ha : a = p
    · subst ha
      rw [upd_same] at e' ⊢
      exact e'
    · rw [upd_ne ha] at e' ⊢
      exact s.sub _ _ e'
  · show upd g.Z p o a = none
    have ha : a ≠ p := fun z => nι (z ▸ m)
    rw [upd_ne ha]
    exact s.out a m
  · obtain ⟨a, e1, r⟩ := s.obj n u e
    refine ⟨a, e1, ?_⟩
    cases u with
    | lst xs =>
      obtain ⟨vs, q, r⟩ := r
      exact ⟨vs, by rw [upd_ne (fun z => by rw [z, np] at q; cases q)]; exact q, RpL.mono zm xs vs r⟩
  · have ha : a ≠ p := fun z => by rw [z, np] at e; cases e
    refine ⟨by rw [upd_ne ha]; exact e, n, fun z => ?_⟩
    show upd g.Z p o a = none
    rw [upd_ne ha]
    exact z
/-- a new list of the heap -/
theorem Sim.pushed (s : Sim K g h H) {p : Addr} (np : H p = none) {xs : List PyData} {vs : List V} (r : RpL K g.Z xs vs) :
    Sim K ⟨g.Z, g.ι ++ [p]⟩ (h ++ [.lst xs]) (upd H p (.lst vs)) ∧ Pres g H ⟨g.Z, g.ι ++ [p]⟩ (upd H p (.lst vs)) := by
  have nι : p ∉ g.ι := fun m => by
    obtain ⟨vs, e⟩ := s.tracked m
    rw [np] at e; cases e
  have zp : g.Z p = none := by
    cases e : g.Z p with
    | none => rfl
    | some u =>
      have := s.sub _ _ e
      rw [np] at this; cases this
  refine ⟨⟨fun a u e => ?_, ?_, ?_, fun a m => ?_, fun n u e => ?_⟩, fun _ _ e => e, ⟨[p], rfl⟩, fun a u e n => ?_⟩
  · rw [upd_ne (fun z => by rw [z] at e; rw [zp] at e; cases e)]
    exact s.sub _ _ e
  · rw [List.nodup_append]
    refine ⟨s.nd, by simp, fun a m b mb => ?_⟩
    have : b = p := by simpa using mb
    subst this
    exact fun z => nι (z ▸ m)
  · rw [List.length_append, List.length_append, s.len]
    rfl
  · rcases List.mem_append.mp m with m | m
    · exact s.out a m
    · have : a = p := by simpa using m
      subst this
      exact zp
  · by_cases hn : n < h.length
    · rw [List.getElem?_append_left hn] at e
      obtain ⟨a, e1, r'⟩ := s.obj n u e
      refine ⟨a, ?_, ?_⟩
      · show (g.ι ++ [p])[n]? = some a
        rw [List.getElem?_append_left (by rw [s.len]; exact hn)]
        exact e1
      · cases u with
        | lst ys =>
          obtain ⟨ws, q, r'⟩ := r'
          exact ⟨ws, by rw [upd_ne (fun z => by rw [z, np] at q; cases q)]; exact q, r'⟩
    · rw [List.getElem?_append_right (Nat.le_of_not_lt hn)] at e
      have h0 : n - h.length = 0 := by
        by_cases z : n - h.length = 0
        · exact z
        · rw [List.getElem?_eq_none (by simp; omega)] at e
          cases e
      rw [h0] at e
      simp at e
      subst e
      have hn2 : n = h.length := by omega
      refine ⟨p, ?_, vs, upd_same, r⟩
      show (g.ι ++ [p])[n]? = some p
      rw [hn2, ← s.len, List.getElem?_append_right (Nat.le_refl _), Nat.sub_self]
      rfl
  · have ha : a ≠ p := fun z => by rw [z, np] at e; cases e
    refine ⟨by rw [upd_ne ha]; exact e, fun m => ?_, id⟩
    rcases List.mem_append.mp m with m | m
    · exact n m
    · exact ha (by simpa using m)
/-- a list of the heap, changed -/
theorem Sim.write (s : Sim K g h H) {n : Nat} {a : Addr} (e : g.ι[n]? = some a) {xs : List PyData} {vs : List V} (r : RpL K g.Z xs vs) :
    Sim K g (h.set n (.lst xs)) (upd H a (.lst vs)) ∧ Pres g H g (upd H a (.lst vs)) := by
  have m : a ∈ g.ι := List.mem_of_getElem? e
  have hn : n < h.length := by
    rw [← s.len]
    exact (List.getElem?_eq_some_iff.mp e).1
  refine ⟨⟨fun b u q => ?_, s.nd, by rw [List.length_set]; exact s.len, s.out, fun k u q => ?_⟩, fun _ _ z => z, ⟨[], (List.append_nil _).symm⟩, fun b u q nb => ⟨?_, nb, id⟩⟩
  · rw [upd_ne (fun z => by rw [z, s.out a m] at q; cases q)]
    exact s.sub _ _ q
  · by_cases hk : k = n
    · subst hk
      rw [List.getElem?_set_self hn] at q
      cases q
      exact ⟨a, e, vs, upd_same, r⟩
    · rw [List.getElem?_set_ne (Ne.symm hk)] at q
      obtain ⟨b, e1, r'⟩ := s.obj k u q
      refine ⟨b, e1, ?_⟩
      have hb : b ≠ a := fun z => by
        subst z
        obtain ⟨i1, f1⟩ := List.getElem?_eq_some_iff.mp e
        obtain ⟨i2, f2⟩ := List.getElem?_eq_some_iff.mp e1
        exact hk ((List.getElem_inj s.nd).mp (f2.trans f1.symm))
      cases u with
      | lst ys =>
        obtain ⟨ws, q2, r2⟩ := r'
        exact ⟨ws, by rw [upd_ne hb]; exact q2, r2⟩
  · have hb : b ≠ a := fun z => nb (z ▸ m)
    rw [upd_ne hb]
    exact q
end

/-! ### names -/
def SlR (K : PySem.W.Frag) (g : Gh) (H : Hp) : Sl → Option V → Prop
  | .no, _ => True
  | .v x, o => ∃ v, o = some v ∧ VlR K g x v
  | .own xs, o => ∃ a vs, o = some (.ref a) ∧ H a = some (.lst vs) ∧ g.Z a = none ∧ a ∉ g.ι ∧ RpL K g.Z xs vs

structure EnR (K : PySem.W.Frag) (g : Gh) (H : Hp) (env : En) (σ : Sg) : Prop where
  len : env.length = σ.length
  at_ : ∀ (i : Nat) s, env[i]? = some s → ∃ o, σ[i]? = some o ∧ SlR K g H s o
  dist : ∀ (i j : Nat) xs ys a, env[i]? = some (.own xs) → env[j]? = some (.own ys) → σ[i]? = some (some (.ref a)) → σ[j]? = some (some (.ref a)) → i = j

section
variable {K : PySem.W.Frag} {g g' : Gh} {H H' : Hp} {h h' : Sh} {env : En} {σ : Sg}
theorem SlR.mono (p : Pres g H g' H') {s : Sl} {o : Option V} (r : SlR K g H s o) : SlR K g' H' s o := by
  cases s with
  | no => trivial
  | v x =>
    obtain ⟨v, e, r⟩ := r
    exact ⟨v, e, r.mono p⟩
  | own xs =>
    obtain ⟨a, vs, e, hH, z, n, r⟩ := r
    obtain ⟨k1, k2, k3⟩ := p.k a _ hH n
    exact ⟨a, vs, e, k1, k3 z, k2, RpL.mono p.z xs vs r⟩
theorem EnR.mono (p : Pres g H g' H') (r : EnR K g H env σ) : EnR K g' H' env σ :=
  ⟨r.len, fun i s e => let ⟨o, e2, q⟩ := r.at_ i s e; ⟨o, e2, q.mono p⟩, r.dist⟩
/-- a name set to a value -/
theorem EnR.set (r : EnR K g H env σ) {i : Nat} {x : Vl} {v : V} (hx : VlR K g x v) : EnR K g H (env.set i (.v x)) (σ.set i (some v)) := by
  refine ⟨by rw [List.length_set, List.length_set]; exact r.len, fun j s e => ?_, fun j k xs ys a e1 e2 e3 e4 => ?_⟩
  · by_cases hj : j = i
    · subst hj
      have hl : j < env.length := by
        have := (List.getElem?_eq_some_iff.mp e).1
        rw [List.length_set] at this
        exact this
      rw [List.getElem?_set_self hl] at e
      cases e
      refine ⟨some v, ?_, v, rfl, hx⟩
      rw [List.getElem?_set_self (by rw [← r.len]; exact hl)]
    · rw [List.getElem?_set_ne (Ne.symm hj)] at e
      obtain ⟨o, q1, q2⟩ := r.at_ j s e
      exact ⟨o, by rw [List.getElem?_set_ne (Ne.symm hj)]; exact q1, q2⟩
  · have hj : j ≠ i := fun z => by
      subst z
      have hl : j < env.length := by
        have := (List.getElem?_eq_some_iff.mp e1).1
        rw [List.length_set] at this
        exact this
      rw [List.getElem?_set_self hl] at e1
      cases e1
    have hk : k ≠ i := fun z => by
      subst z
      have hl : k < env.length := by
        have := (List.getElem?_eq_some_iff.mp e2).1
        rw [List.length_set] at this
        exact this
      rw [List.getElem?_set_self hl] at e2
      cases e2
    rw [List.getElem?_set_ne (Ne.symm hj)] at e1 e3
    rw [List.getElem?_set_ne (Ne.symm hk)] at e2 e4
    exact r.dist j k xs ys a e1 e2 e3 e4
end
end Mi
/-! Mi: what it means that the reader's result is the program's. -/
namespace Mi
open PySem PySem.Spec PyProof.Rows L2

/-- the program beside the tables -/
structure Pg where
  P : Program
  w : World
  K : PySem.W.Frag
  mg : Str → Option Value
  base : Heap
  cl : Nat → Option Addr
  fld : Nat → Option Str

def ErR (pg : Pg) (e : Er) (cls : Value) (dx : Option Addr) (H : Hp) (g : Gh) : Prop :=
  ∃ C, pg.cl e.c = some C ∧ cls = .ref C ∧ (match e.v with
    | none => dx = none
    | some d => ∃ a f v, dx = some a ∧ pg.fld e.c = some f ∧ H a = some (.xd [(f, v)]) ∧ Rp pg.K g.Z d v)

def SR {α β : Type} (pg : Pg) (X : Cx) (σ : Sg) (g : Gh) (H : Hp) (Rl : Gh → Hp → α → β → Prop) (r : R α) (w : (β → Hp → Prop) → Prop) : Prop :=
  match r with
  | .ok x h' => ∀ Q : β → Hp → Prop, (∀ v H' g', Sim pg.K g' h' H' → Pres g H g' H' → Rl g' H' x v → Q v H') → w Q
  | .ex e h' => ∀ W : WX, Takes X W → (∀ cls dx H' g', Sim pg.K g' h' H' → Pres g H g' H' → ErR pg e cls dx H' g' → W cls dx σ H') → ∀ Q, w Q
  | .no => True

section
variable {pg : Pg} {X : Cx} {σ : Sg} {g : Gh} {H : Hp} {α β γ δ : Type}
theorem SR.bind {Rl : Gh → Hp → α → β → Prop} {R2 : Gh → Hp → γ → δ → Prop} {r : R α} {f : α → Sh → R γ} {w : (β → Hp → Prop) → Prop} {w2 : β → Hp → (δ → Hp → Prop) → Prop} {w3 : (δ → Hp → Prop) → Prop}
    (h1 : SR pg X σ g H Rl r w) (comb : ∀ Q, w (fun b H' => w2 b H' Q) → w3 Q)
    (h2 : ∀ a h' b H' g', r = .ok a h' → Sim pg.K g' h' H' → Pres g H g' H' → Rl g' H' a b → SR pg X σ g' H' R2 (f a h') (w2 b H')) : SR pg X σ g H R2 (r.bind f) w3 := by
  cases r with
  | no => exact trivial
  | ex e h' => exact fun W tk hW Q => comb Q (h1 W tk hW _)
  | ok a h' =>
    show SR pg X σ g H R2 (f a h') w3
    have h2' := h2 a h'
    cases hf : f a h' with
    | no => exact trivial
    | ok y h2 =>
      refine fun Q hQ => comb Q (h1 _ fun b H' g' s p r => ?_)
      have := h2' b H' g' rfl s p r
      rw [hf] at this
      exact this Q fun v H2 g2 s2 p2 r2 => hQ v H2 g2 s2 (p.trans p2) r2
    | ex e h2 =>
      refine fun W tk hW Q => comb Q (h1 _ fun b H' g' s p r => ?_)
      have := h2' b H' g' rfl s p r
      rw [hf] at this
      exact this W tk (fun cls dx H2 g2 s2 p2 r2 => hW cls dx H2 g2 s2 (p.trans p2) r2) Q
theorem SR.imp {Rl : Gh → Hp → α → β → Prop} {r : R α} {w w' : (β → Hp → Prop) → Prop} (h : SR pg X σ g H Rl r w) (c : ∀ Q, w Q → w' Q) : SR pg X σ g H Rl r w' := by
  cases r with
  | no => exact trivial
  | ex e h' => exact fun W tk hW Q => c Q (h W tk hW Q)
  | ok a h' => exact fun Q hQ => c Q (h Q hQ)
theorem SR.weak {Rl R2 : Gh → Hp → α → β → Prop} {r : R α} {w : (β → Hp → Prop) → Prop} (h : SR pg X σ g H Rl r w) (c : ∀ g' H' a b, Rl g' H' a b → R2 g' H' a b) : SR pg X σ g H R2 r w := by
  cases r with
  | no => exact trivial
  | ex e h' => exact h
  | ok a h' => exact fun Q hQ => h Q fun v H' g' s p q => hQ v H' g' s p (c _ _ _ _ q)
/-- .. carried back to an earlier state -/
theorem SR.back {Rl : Gh → Hp → α → β → Prop} {r : R α} {w : (β → Hp → Prop) → Prop} {g0 : Gh} {H0 : Hp} (p : Pres g0 H0 g H) (h : SR pg X σ g H Rl r w) : SR pg X σ g0 H0 Rl r w := by
  cases r with
  | no => exact trivial
  | ex e h' => exact fun W tk hW Q => h W tk (fun cls dx H' g' s q => hW cls dx H' g' s (p.trans q)) Q
  | ok a h' => exact fun Q hQ => h Q fun v H' g' s q => hQ v H' g' s (p.trans q)
/-- a value at once -/
theorem SR.pure {Rl : Gh → Hp → α → β → Prop} {x : α} {h : Sh} {w : (β → Hp → Prop) → Prop} {b : β} (s : Sim pg.K g h H) (r : Rl g H x b) (c : ∀ Q : β → Hp → Prop, Q b H → w Q) : SR pg X σ g H Rl (.ok x h) w :=
  fun Q hQ => c Q (hQ b H g s Pres.refl r)
end

/-! ### the semantic readings -/
def wE (X : Cx) (e : Expr) (σ : Sg) (H : Hp) (Q : VK) : Prop := ∀ (pins : List (Addr × Obj)) (s : Shared), Inv X pins σ H s → wpAny (model X.prog X.w) X.A (eval e X.env) (EP X pins σ Q) X.xe s
def wT (X : Cx) (e : Expr) (σ : Sg) (H : Hp) (Q : Bool → Hp → Prop) : Prop := ∀ (pins : List (Addr × Obj)) (s : Shared), Inv X pins σ H s → wpAny (model X.prog X.w) X.A (isTrue e X.env (eval e X.env)) (TP X pins σ Q) X.xe s
def wA (X : Cx) (es : List Expr) (σ : Sg) (H : Hp) (Q : List V → Hp → Prop) : Prop := ∀ (pos : Pos) (pins : List (Addr × Obj)) (s : Shared), Inv X pins σ H s → wpAny (model X.prog X.w) X.A (spliced (backTo pos (starEach es X.env))) (AP X pins σ Q) X.xe s
def wS (X : Cx) (st : Stmt) (D : Ends) (σ : Sg) (H : Hp) : Prop := ∀ (pins : List (Addr × Obj)) (s : Shared), Inv X pins σ H s → wpAny (model X.prog X.w) X.A (exec st X.env) (SP X pins D) X.xe s
def wSs (X : Cx) (st : List Stmt) (D : Ends) (σ : Sg) (H : Hp) : Prop := ∀ (pins : List (Addr × Obj)) (s : Shared), Inv X pins σ H s → wpAny (model X.prog X.w) X.A (execs st X.env) (SP X pins D) X.xe s
def wO (X : Cx) (f : Value → Value → Sem Value) (σ : Sg) (x y : V) (H : Hp) (Q : VK) : Prop :=
  ∀ (pins : List (Addr × Obj)) (s : Shared) (v u : Value), Inv X pins σ H s → RelV x v → RelV y u → wpAny (model X.prog X.w) X.A (f v u) (EP X pins σ Q) X.xe s
def wC (X : Cx) (f : Value) (σ : Sg) (vs : List V) (H : Hp) (Q : VK) : Prop :=
  ∀ (pins : List (Addr × Obj)) (s : Shared) (us : List Value), Inv X pins σ H s → Vals vs us → wpAny (model X.prog X.w) X.A (call f us) (EP X pins σ Q) X.xe s

section
variable {X : Cx} {e a b : Expr} {es : List Expr} {σ : Sg} {H : Hp}
theorem pe_w : PE X e (wE X e) := ⟨fun pins s σ H Q I h => h pins s I⟩
theorem pt_w : PT X e (wT X e) := ⟨fun pins s σ H Q I h => h pins s I⟩
theorem pa_w : PA X es (wA X es) := ⟨fun pos pins s σ H Q I h => h pos pins s I⟩
theorem ps_w {st : Stmt} : PS X st (wS X st) := ⟨fun pins s σ H D I h => h pins s I⟩
theorem pss_w {st : List Stmt} : PSs X st (wSs X st) := ⟨fun pins s σ H D I h => h pins s I⟩
theorem wE_of {t : TE} (p : PE X e t) {Q : VK} (h : t σ H Q) : wE X e σ H Q := fun pins s I => p.run pins s σ H Q I h
theorem wT_of {t : TT} (p : PT X e t) {Q : Bool → Hp → Prop} (h : t σ H Q) : wT X e σ H Q := fun pins s I => p.run pins s σ H Q I h
theorem wA_of {t : TA} (p : PA X es t) {Q : List V → Hp → Prop} (h : t σ H Q) : wA X es σ H Q := fun pos pins s I => p.run pos pins s σ H Q I h
theorem wS_of {st : Stmt} {t : TS} (p : PS X st t) {D : Ends} (h : t D σ H) : wS X st D σ H := fun pins s I => p.run pins s σ H D I h
theorem wSs_of {st : List Stmt} {t : TS} (p : PSs X st t) {D : Ends} (h : t D σ H) : wSs X st D σ H := fun pins s I => p.run pins s σ H D I h
theorem wO_of {f : Value → Value → Sem Value} {r : L2.R2} (p : OpR X f r) {x y : V} {Q : VK} (h : r x y H Q) : wO X f σ x y H Q := fun pins s v u I rx ry => p pins s σ H x y v u Q I rx ry h
theorem opR_w {f : Value → Value → Sem Value} : OpR X f (fun x y H Q => ∀ σ, wO X f σ x y H Q) := fun pins s σ H x y v u Q I rx ry h => h σ pins s v u I rx ry
theorem wC_of {f : Value} {r : List V → Hp → VK → Prop} (p : CallR X f r) {vs : List V} {Q : VK} (h : r vs H Q) : wC X f σ vs H Q := fun pins s us I rv => p pins s σ H vs us Q I rv h
theorem wE_mono {Q Q' : VK} (h : wE X e σ H Q) (c : ∀ v H, Q v H → Q' v H) : wE X e σ H Q' := fun pins s I =>
  thn (h pins s I) fun u s1 ⟨x, H1, I1, r1, q1⟩ => ⟨x, H1, I1, r1, c _ _ q1⟩
theorem wT_mono {Q Q' : Bool → Hp → Prop} (h : wT X e σ H Q) (c : ∀ v H, Q v H → Q' v H) : wT X e σ H Q' := fun pins s I =>
  thn (h pins s I) fun u s1 ⟨H1, I1, q1⟩ => ⟨H1, I1, c _ _ q1⟩
end

/-! ### operators on data -/
section
variable {pg : Pg} {X : Cx} {g : Gh} {H : Hp} {h : Sh} {σ : Sg}
def VlRel (K : PySem.W.Frag) : Gh → Hp → Vl → V → Prop := fun g _ x v => VlR K g x v
def PkRel (K : PySem.W.Frag) : Gh → Hp → Vl → V → Prop := fun g H x v => PkR K g H x v

/-- data that may be the frame's own list -/
def PkD (K : PySem.W.Frag) (g : Gh) (H : Hp) (x : PyData) (v : V) : Prop := PkR K g H (.d x) v
theorem PkD.int {K : PySem.W.Frag} {i : Int} {v : V} (r : PkD K g H (.int i) v) : v = .int i := by
  rcases r with r | ⟨xs, a, vs, e, _⟩
  · simpa only [VlR, Rp] using r
  · cases e
theorem PkD.bool {K : PySem.W.Frag} {i : Bool} {v : V} (r : PkD K g H (.bool i) v) : v = .bl i := by
  rcases r with r | ⟨xs, a, vs, e, _⟩
  · simpa only [VlR, Rp] using r
  · cases e
theorem PkD.none {K : PySem.W.Frag} {v : V} (r : PkD K g H .none v) : v = .non := by
  rcases r with r | ⟨xs, a, vs, e, _⟩
  · simpa only [VlR, Rp] using r
  · cases e
theorem PkD.str {K : PySem.W.Frag} {i : Str} {v : V} (r : PkD K g H (.str i) v) : v = .str i := by
  rcases r with r | ⟨xs, a, vs, e, _⟩
  · simpa only [VlR, Rp] using r
  · cases e
theorem PkD.tuple {K : PySem.W.Frag} {xs : List PyData} {v : V} (s : Sim K g h H) (r : PkD K g H (.tuple xs) v) : ∃ a vs, v = .ref a ∧ SqT K H a vs ∧ RpL K g.Z xs vs := by
  rcases r with r | ⟨xs, a, vs, e, _⟩
  · simp only [VlR, Rp] at r
    obtain ⟨a, vs, e, q, r⟩ := r
    exact ⟨a, vs, e, sqT_mono s.sub q, r⟩
  · cases e
theorem PkD.list {K : PySem.W.Frag} {xs : List PyData} {v : V} (s : Sim K g h H) (r : PkD K g H (.list xs) v) : ∃ a vs, v = .ref a ∧ H a = some (.lst vs) ∧ RpL K g.Z xs vs := by
  rcases r with r | ⟨ys, a, vs, e, e2, hH, _, r⟩
  · simp only [VlR, Rp] at r
    obtain ⟨a, vs, e, q, r⟩ := r
    exact ⟨a, vs, e, s.sub _ _ q, r⟩
  · cases e
    exact ⟨a, vs, e2, hH, r⟩
theorem szL : SZ = sizeLine := by rw [sizeLine_eq]; rfl

theorem ok_int {Q : VK} {i : Int} (s : Sim pg.K g h H) (hQ : ∀ v H' g', Sim pg.K g' h H' → Pres g H g' H' → VlRel pg.K g' H' (.d (.int i)) v → Q v H') : Q (.int i) H := hQ _ _ _ s Pres.refl (by simp only [VlRel, VlR, Rp])
theorem ok_bl {Q : VK} {i : Bool} (s : Sim pg.K g h H) (hQ : ∀ v H' g', Sim pg.K g' h H' → Pres g H g' H' → VlRel pg.K g' H' (.d (.bool i)) v → Q v H') : Q (.bl i) H := hQ _ _ _ s Pres.refl (by simp only [VlRel, VlR, Rp])
theorem ok_str {Q : VK} {i : Str} (s : Sim pg.K g h H) (hQ : ∀ v H' g', Sim pg.K g' h H' → Pres g H g' H' → VlRel pg.K g' H' (.d (.str i)) v → Q v H') : Q (.str i) H := hQ _ _ _ s Pres.refl (by simp only [VlRel, VlR, Rp])
/-- a new tuple, a new list -/
theorem ok_tup {Q : VK} {xs : List PyData} {vs : List V} (s : Sim pg.K g h H) (r : RpL pg.K g.Z xs vs) (hQ : ∀ v H' g', Sim pg.K g' h H' → Pres g H g' H' → VlRel pg.K g' H' (.d (.tuple xs)) v → Q v H') : ∀ p, H p = none → Q (.ref p) (upd H p (.tup vs)) := fun p np => by
  obtain ⟨s', p'⟩ := s.frozen np (.tup vs)
  refine hQ _ _ _ s' p' ?_
  simp only [VlRel, VlR, Rp]
  exact ⟨p, vs, rfl, .of (by show upd g.Z p _ p = _; rw [upd_same]), RpL.mono p'.z _ _ r⟩
theorem ok_lst {Q : VK} {xs : List PyData} {vs : List V} (s : Sim pg.K g h H) (r : RpL pg.K g.Z xs vs) (hQ : ∀ v H' g', Sim pg.K g' h H' → Pres g H g' H' → VlRel pg.K g' H' (.d (.list xs)) v → Q v H') : ∀ p, H p = none → Q (.ref p) (upd H p (.lst vs)) := fun p np => by
  obtain ⟨s', p'⟩ := s.frozen np (.lst vs)
  refine hQ _ _ _ s' p' ?_
  simp only [VlRel, VlR, Rp]
  exact ⟨p, vs, rfl, by show upd g.Z p _ p = _; rw [upd_same], RpL.mono p'.z _ _ r⟩
/-- what stands already -/
theorem ok_it {Q : VK} {x : PyData} {v : V} (s : Sim pg.K g h H) (r : Rp pg.K g.Z x v) (hQ : ∀ v H' g', Sim pg.K g' h H' → Pres g H g' H' → VlRel pg.K g' H' (.d x) v → Q v H') : Q v H := hQ _ _ _ s Pres.refl r

theorem log2_le_of_lt {n k : Nat} (h : n < 2 ^ k) (hk : 0 < k) : n.log2 < k := by
  by_cases h0 : n = 0
  · subst h0
    simpa using hk
  · exact (Nat.log2_lt h0).mpr h
theorem LIM_lt : LIM < 2 ^ 6650 := by unfold LIM; decide +kernel
theorem LIS_lt : LIS < 2 ^ 1900 := by unfold LIS; decide +kernel
theorem okI_log {i : Int} (h : okI i = true) : i.natAbs.log2 < 6650 := log2_le_of_lt (Nat.lt_trans (of_decide_eq_true h) LIM_lt) (by decide)
theorem okS_log {i : Int} (h : okS i = true) : i.natAbs.log2 < 1920 := Nat.lt_trans (log2_le_of_lt (Nat.lt_trans (of_decide_eq_true h) LIS_lt) (by decide)) (by decide)
end
end Mi
/-! Mi: operators on data are the program's. -/
namespace Mi
open PySem PySem.Spec PyProof.Rows L2
section
variable {pg : Pg} {X : Cx} {g : Gh} {H : Hp} {h : Sh} {σ : Sg}

theorem SR.lift {o : Option PyData} {w : (V → Hp → Prop) → Prop}
    (c : ∀ z, o = some z → ∀ Q : VK, (∀ v H' g', Sim pg.K g' h H' → Pres g H g' H' → VlRel pg.K g' H' (.d z) v → Q v H') → w Q) : SR pg X σ g H (VlRel pg.K) (lift o h) w := by
  cases o with
  | none => exact trivial
  | some z => exact c z rfl

/-! deep data -/
mutual
theorem Rp.dp {K : PySem.W.Frag} {Z H : Hp} (m : ∀ a o, Z a = some o → H a = some o) : ∀ (d : PyData) (v : V), d.canLay0 = true → Rp K Z d v → Dp K H v d
  | .none, _, _, r => by simp only [Rp] at r; subst r; exact .non
  | .bool b, _, _, r => by simp only [Rp] at r; subst r; exact .bl b
  | .int i, _, _, r => by simp only [Rp] at r; subst r; exact .int i
  | .str x, _, _, r => by simp only [Rp] at r; subst r; exact .str x
  | .list xs, _, c, r => by
    simp only [Rp] at r
    obtain ⟨a, vs, rfl, hz, r⟩ := r
    exact .lst (.of (m _ _ hz)) (RpL.dp m xs vs (by simpa only [PyData.canLay0] using c) r)
  | .tuple xs, _, c, r => by
    simp only [Rp] at r
    obtain ⟨a, vs, rfl, hz, r⟩ := r
    exact .tup (sqT_mono m hz) (RpL.dp m xs vs (by simpa only [PyData.canLay0] using c) r)
  | .dict _, _, c, _ => by simp [PyData.canLay0] at c
theorem RpL.dp {K : PySem.W.Frag} {Z H : Hp} (m : ∀ a o, Z a = some o → H a = some o) : ∀ (ds : List PyData) (vs : List V), PyData.canLayAll0 ds = true → RpL K Z ds vs → DpAll K H vs ds
  | [], _, _, r => by simp only [RpL] at r; subst r; exact .nil
  | x :: xs, _, c, r => by
    simp only [RpL] at r
    obtain ⟨v, t, rfl, h1, h2⟩ := r
    simp only [PyData.canLayAll0, Bool.and_eq_true] at c
    exact .cons (Rp.dp m x v c.1 h1) (RpL.dp m xs t c.2 h2)
end
theorem PkD.dp {x : PyData} {v : V} (s : Sim pg.K g h H) (c : x.canLay0 = true) (r : PkD pg.K g H x v) : Dp pg.K H v x := by
  rcases r with r | ⟨xs, a, vs, e, rfl, hH, _, r⟩
  · exact Rp.dp s.sub x v c r
  · cases e
    exact .lst (.of hH) (RpL.dp s.sub xs vs (by simpa only [PyData.canLay0] using c) r)

/-- flat data, by its abstract value -/
theorem PkD.flat {x : PyData} {v : V} (f : flatD x = true) (r : PkD pg.K g H x v) : (x = .none ∧ v = .non) ∨ (∃ b, x = .bool b ∧ v = .bl b) ∨ (∃ i, x = .int i ∧ v = .int i) ∨ ∃ t, x = .str t ∧ v = .str t := by
  cases x with
  | none => exact .inl ⟨rfl, r.none⟩
  | bool b => exact .inr (.inl ⟨b, rfl, r.bool⟩)
  | int i => exact .inr (.inr (.inl ⟨i, rfl, r.int⟩))
  | str t => exact .inr (.inr (.inr ⟨t, rfl, r.str⟩))
  | list _ => cases f
  | tuple _ => cases f
  | dict _ => cases f

theorem dec_refl {α : Type} [DecidableEq α] (a b : α) [BEq α] [LawfulBEq α] : (a == b) = decide (a = b) := by
  by_cases h : a = b
  · subst h; simp
  · simp [h]

/-- == and != where both are flat, or both of a plain shape -/
theorem eq_gen {x y : PyData} {vx vy : V} (hK : X.K = pg.K) (hu : X.A.units + 64 < cLine) (s : Sim pg.K g h H) (rx : PkD pg.K g H x vx) (ry : PkD pg.K g H y vy)
    (c : (flatD x && flatD y || SeqAt.shaped x && SeqAt.shaped y) = true) :
    (∀ Q : VK, Q (.bl (PyData.eqv x y)) H → wO X (compareOp .Eq) σ vx vy H Q) ∧ (∀ Q : VK, Q (.bl (!PyData.eqv x y)) H → wO X (compareOp .NotEq) σ vx vy H Q) := by
  have deep : SeqAt.shaped x = true → SeqAt.shaped y = true → (∀ Q : VK, Q (.bl (PyData.eqv x y)) H → wO X (compareOp .Eq) σ vx vy H Q) ∧ (∀ Q : VK, Q (.bl (!PyData.eqv x y)) H → wO X (compareOp .NotEq) σ vx vy H Q) := fun cx cy => by
    have dx := PkD.dp s (SeqAt.canLay_of_shaped cx) rx
    have dy := PkD.dp s (SeqAt.canLay_of_shaped cy) ry
    exact ⟨fun Q q => wO_of (op_eqD hu) ⟨x, y, by rw [hK]; exact dx, by rw [hK]; exact dy, cx, cy, q⟩, fun Q q => wO_of (op_neD hu) ⟨x, y, by rw [hK]; exact dx, by rw [hK]; exact dy, cx, cy, q⟩⟩
  rcases Bool.or_eq_true _ _ ▸ c with c | c
  · obtain ⟨fx, fy⟩ := Bool.and_eq_true _ _ ▸ c
    have sc : scal vx vy = true → decide (vx = vy) = PyData.eqv x y → (∀ Q : VK, Q (.bl (PyData.eqv x y)) H → wO X (compareOp .Eq) σ vx vy H Q) ∧ (∀ Q : VK, Q (.bl (!PyData.eqv x y)) H → wO X (compareOp .NotEq) σ vx vy H Q) := fun q e =>
      ⟨fun Q hq => wO_of op_eq ⟨q, by rw [e]; exact hq⟩, fun Q hq => wO_of op_ne ⟨q, by rw [e]; exact hq⟩⟩
    rcases rx.flat fx with ⟨rfl, rfl⟩ | ⟨b, rfl, rfl⟩ | ⟨i, rfl, rfl⟩ | ⟨t, rfl, rfl⟩ <;> rcases ry.flat fy with ⟨rfl, rfl⟩ | ⟨b', rfl, rfl⟩ | ⟨j, rfl, rfl⟩ | ⟨u, rfl, rfl⟩
    all_goals first
      | exact deep rfl rfl
      | exact sc rfl dec_str
      | (refine sc rfl ?_; simp only [PyData.eqv]; simp)
  · obtain ⟨cx, cy⟩ := Bool.and_eq_true _ _ ▸ c
    exact deep cx cy

theorem isEmpty_len {ds : List PyData} {vs : List V} {K : PySem.W.Frag} {Z : Hp} (r : RpL K Z ds vs) : (vs.length == 0) = ds.isEmpty := by
  rw [r.length]
  cases ds <;> rfl
/-- .. and where one is empty -/
theorem eq_ok {x y : PyData} {vx vy : V} (hK : X.K = pg.K) (hu : X.A.units + 64 < cLine) (s : Sim pg.K g h H) (rx : PkD pg.K g H x vx) (ry : PkD pg.K g H y vy) {b : Bool} (e : eqD x y = some b) :
    (∀ Q : VK, Q (.bl b) H → wO X (compareOp .Eq) σ vx vy H Q) ∧ (∀ Q : VK, Q (.bl (!b)) H → wO X (compareOp .NotEq) σ vx vy H Q) := by
  unfold eqD at e
  split at e
  · rename_i xs
    cases e
    obtain ⟨a, vs, rfl, hq, r⟩ := PkD.tuple s rx
    obtain ⟨a2, vs2, rfl, hq2, r2⟩ := PkD.tuple s ry
    simp only [RpL] at r2
    subst r2
    have go : ∀ {pins : List (Addr × Obj)} {s1 : Shared}, Inv X pins σ H s1 → ∃ its : List Value, its.length = vs.length ∧ s1.heap.IsTuple a its.toArray ∧ s1.heap.IsTuple a2 #[] := fun I => by
      obtain ⟨its, rv, ht, _⟩ := I.tuple (hK ▸ hq)
      obtain ⟨its2, rv2, ht2, _⟩ := I.tuple (hK ▸ hq2)
      cases rv2
      exact ⟨its, rv.length.symm, ht, ht2⟩
    refine ⟨fun Q q pins s1 v u I rv ru => ?_, fun Q q pins s1 v u I rv ru => ?_⟩
    · cases rv; cases ru
      obtain ⟨its, hl, h1, h2⟩ := go I
      refine SeqAt.RcAt.tuples (e := fun _ => true) h1 h2 (by omega) (fun j _ h2 => absurd h2 (Nat.not_lt_zero _)) _ _ _ _ ⟨.bl _, H, I, rfl, ?_⟩
      have : (((List.range (min its.toArray.size (#[] : Array Value).size)).all fun _ => true) && its.toArray.size == (#[] : Array Value).size) = xs.isEmpty := by
        rw [← isEmpty_len r, ← hl]
        simp
      rw [this]
      exact q
    · cases rv; cases ru
      obtain ⟨its, hl, h1, h2⟩ := go I
      refine SeqAt.RcNeAt.tuples (e := fun _ => true) h1 h2 (by omega) (fun j _ h2 => absurd h2 (Nat.not_lt_zero _)) _ _ _ _ ⟨.bl _, H, I, rfl, ?_⟩
      have : (((List.range (min its.toArray.size (#[] : Array Value).size)).all fun _ => true) && its.toArray.size == (#[] : Array Value).size) = xs.isEmpty := by
        rw [← isEmpty_len r, ← hl]
        simp
      rw [this]
      exact q
  · rename_i xs
    cases e
    obtain ⟨a, vs, rfl, hq, r⟩ := PkD.list s rx
    obtain ⟨a2, vs2, rfl, hq2, r2⟩ := PkD.list s ry
    simp only [RpL] at r2
    subst r2
    have go : ∀ {pins : List (Addr × Obj)} {s1 : Shared}, Inv X pins σ H s1 → ∃ its : List Value, its.length = vs.length ∧ s1.heap.IsList a its.toArray ∧ s1.heap.IsList a2 #[] := fun I => by
      obtain ⟨its, rv, ht, _⟩ := I.list (.of hq)
      obtain ⟨its2, rv2, ht2, _⟩ := I.list (.of hq2)
      cases rv2
      exact ⟨its, rv.length.symm, ht.isList, ht2.isList⟩
    have hx : ∀ {its : List Value}, its.length = vs.length → xs.isEmpty = (its.toArray.size == 0) := fun {its} hl => by
      rw [← isEmpty_len r, ← hl]
      simp
    refine ⟨fun Q q pins s1 v u I rv ru => ?_, fun Q q pins s1 v u I rv ru => ?_⟩
    · cases rv; cases ru
      obtain ⟨its, hl, h1, h2⟩ := go I
      rw [hx hl] at q
      by_cases h0 : its.toArray.size = 0
      · refine SeqAt.RcAt.lists (e := fun _ => true) h1 h2 h0 (by omega) (fun j _ h2 => absurd h2 (Nat.not_lt_zero _)) _ _ _ _ ⟨.bl _, H, I, rfl, ?_⟩
        rw [h0] at q ⊢
        exact q
      · refine SeqAt.RcAt.lists_lengths h1 h2 (by simpa using h0) (by omega) _ _ _ _ ⟨.bl _, H, I, rfl, ?_⟩
        have : (its.toArray.size == 0) = false := beq_eq_false_iff_ne.mpr h0
        rw [this] at q
        exact q
    · cases rv; cases ru
      obtain ⟨its, hl, h1, h2⟩ := go I
      rw [hx hl] at q
      by_cases h0 : its.toArray.size = 0
      · refine SeqAt.RcNeAt.lists (e := fun _ => true) h1 h2 h0 (by omega) (fun j _ h2 => absurd h2 (Nat.not_lt_zero _)) _ _ _ _ ⟨.bl _, H, I, rfl, ?_⟩
        rw [h0] at q ⊢
        exact q
      · refine SeqAt.RcNeAt.lists_lengths h1 h2 (by simpa using h0) (by omega) _ _ _ _ ⟨.bl _, H, I, rfl, ?_⟩
        have : (its.toArray.size == 0) = false := beq_eq_false_iff_ne.mpr h0
        rw [this] at q
        exact q
  · split at e
    · rename_i c
      cases e
      exact eq_gen hK hu s rx ry c
    · cases e

/-- in, not in -/
theorem RpL.flat {K : PySem.W.Frag} {Z : Hp} : ∀ {ds : List PyData} {vs : List V}, ds.all flatD = true → RpL K Z ds vs → vs.all flatV = true
  | [], _, _, r => by simp only [RpL] at r; subst r; rfl
  | x :: xs, _, c, r => by
    simp only [RpL] at r
    obtain ⟨v, t, rfl, h1, h2⟩ := r
    rw [List.all_cons, Bool.and_eq_true] at c ⊢
    refine ⟨?_, RpL.flat c.2 h2⟩
    cases x <;> first | (simp only [Rp] at h1; subst h1; rfl) | (have := c.1; cases this)

theorem eqV_eqv {K : PySem.W.Frag} {Z : Hp} {x y : PyData} {vx vy : V} (fx : flatD x = true) (fy : flatD y = true) (rx : Rp K Z x vx) (ry : Rp K Z y vy) : eqV vy vx = PyData.eqv y x := by
  cases x <;> cases y <;> first | (cases fx; done) | (cases fy; done) | (simp only [Rp] at rx ry; subst rx ry; rfl)
theorem inV_eq {K : PySem.W.Frag} {Z : Hp} {x : PyData} {vx : V} (fx : flatD x = true) (rx : Rp K Z x vx) : ∀ {ys : List PyData} {vs : List V}, ys.all flatD = true → RpL K Z ys vs → inV vx vs = ys.any fun y => PyData.eqv y x
  | [], _, _, r => by simp only [RpL] at r; subst r; rfl
  | y :: ys, _, c, r => by
    simp only [RpL] at r
    obtain ⟨v, t, rfl, h1, h2⟩ := r
    rw [List.all_cons, Bool.and_eq_true] at c
    show (eqV v vx || inV vx t) = _
    rw [List.any_cons, eqV_eqv fx c.1 rx h1, inV_eq fx rx c.2 h2]
theorem PkD.rp {x : PyData} {v : V} (f : flatD x = true) (r : PkD pg.K g H x v) : Rp pg.K g.Z x v := by
  rcases r with r | ⟨xs, a, vs, e, _⟩
  · exact r
  · cases e; cases f
theorem flatV_of {x : PyData} {v : V} (f : flatD x = true) (r : PkD pg.K g H x v) : flatV v = true := by
  rcases r.flat f with ⟨_, rfl⟩ | ⟨_, _, rfl⟩ | ⟨_, _, rfl⟩ | ⟨_, _, rfl⟩ <;> rfl
theorem in_ok {x y : PyData} {ys : List PyData} {vx vy : V} (hK : X.K = pg.K) (hu : X.A.units + 65 < cLine) (s : Sim pg.K g h H) (rx : PkD pg.K g H x vx) (ry : PkD pg.K g H y vy) (hy : y = .list ys ∨ y = .tuple ys) {b : Bool} (e : inD x ys = some b) :
    (∀ Q : VK, Q (.bl b) H → wO X (compareOp .In) σ vx vy H Q) ∧ (∀ Q : VK, Q (.bl (!b)) H → wO X (compareOp .NotIn) σ vx vy H Q) := by
  obtain ⟨p, vs, rfl, hq, r⟩ : ∃ p vs, vy = .ref p ∧ (SqL X.K H p vs ∨ SqT X.K H p vs) ∧ RpL pg.K g.Z ys vs := by
    rcases hy with rfl | rfl
    · obtain ⟨a, vs, e1, e2, r⟩ := PkD.list s ry
      exact ⟨a, vs, e1, .inl (.of e2), r⟩
    · obtain ⟨a, vs, e1, e2, r⟩ := PkD.tuple s ry
      exact ⟨a, vs, e1, .inr (hK ▸ e2), r⟩
  unfold inD at e
  split at e
  · rename_i c
    rw [Bool.and_eq_true] at c
    cases e
    have ei := inV_eq c.1 (PkD.rp c.1 rx) c.2 r
    have f1 := flatV_of c.1 rx
    have f2 := RpL.flat c.2 r
    exact ⟨fun Q q => wO_of op_in_seq ⟨p, vs, rfl, hq, f1, f2, by rw [ei]; exact q⟩, fun Q q => wO_of op_notIn_seq ⟨p, vs, rfl, hq, f1, f2, by rw [ei]; exact q⟩⟩
  · split at e
    · rename_i c
      rw [Bool.and_eq_true] at c
      cases e
      have dx := PkD.dp s (SeqAt.canLay_of_shaped c.1) rx
      have cl : PyData.canLayAll0 ys = true := by have := SeqAt.canLay_of_shaped c.2; simpa only [PyData.canLay0] using this
      have dy := RpL.dp s.sub ys vs cl r
      have rm : X.A.units + 1 + min (PyData.depthAll ys) x.depth < cLine := by
        have h1 := SeqAt.depth_of_shaped c.1
        have h2 := Nat.min_le_right (PyData.depthAll ys) x.depth
        omega
      rcases hq with hq | hq
      · exact ⟨fun Q q => wO_of (op_inD hu) ⟨x, ys, by rw [hK]; exact dx, by rw [hK]; exact .lst (hK ▸ hq) dy, c.1, c.2, q⟩, fun Q q => wO_of (op_notInD hu) ⟨x, ys, by rw [hK]; exact dx, by rw [hK]; exact .lst (hK ▸ hq) dy, c.1, c.2, q⟩⟩
      · refine ⟨fun Q q pins s1 v u I rv ru => ?_, fun Q q pins s1 v u I rv ru => ?_⟩
        · obtain ⟨as, r1⟩ := Dp.reads I x vx v (hK ▸ dx) rv
          obtain ⟨bs, r2⟩ := Dp.reads I (.tuple ys) (.ref p) u (.tup hq (hK ▸ dy)) ru
          exact SeqAt.in_tuple_reads r2 r1 cl (SeqAt.canLay_of_shaped c.1) rm ⟨.bl _, H, I, rfl, q⟩
        · obtain ⟨as, r1⟩ := Dp.reads I x vx v (hK ▸ dx) rv
          obtain ⟨bs, r2⟩ := Dp.reads I (.tuple ys) (.ref p) u (.tup hq (hK ▸ dy)) ru
          exact SeqAt.notIn_tuple_reads r2 r1 cl (SeqAt.canLay_of_shaped c.1) rm ⟨.bl _, H, I, rfl, q⟩
    · cases e

theorem inS_some {x y : Str} {b : Bool} (e : inS x y = some b) : ∃ c, x = ⟨#[c]⟩ ∧ b = decide (c ∈ y.cps.toList) := by
  unfold inS at e
  split at e
  · rename_i c hc
    refine ⟨c, ?_, (Option.some.inj e).symm⟩
    obtain ⟨⟨l⟩⟩ := x
    have : l = [c] := hc
    rw [this]
  · cases e
/-- a comparison -/
theorem cmp_ok {op : CmpOp} {x y : PyData} {vx vy : V} (hK : X.K = pg.K) (hu : X.A.units + 65 < cLine) (s : Sim pg.K g h H) (rx : PkD pg.K g H x vx) (ry : PkD pg.K g H y vy) {b : Bool} (e : cmpD op x y = some b) {Q : VK} (q : Q (.bl b) H) :
    wO X (compareOp op) σ vx vy H Q := by
  unfold cmpD at e
  split at e
  · exact (eq_ok hK (by omega) s rx ry e).1 Q q
  · obtain ⟨c, e1, rfl⟩ := Option.map_eq_some_iff.mp e
    exact (eq_ok hK (by omega) s rx ry e1).2 Q q
  · rename_i i j; cases rx.int; cases ry.int; cases e; exact wO_of op_lt ⟨i, j, rfl, rfl, q⟩
  · rename_i i j; cases rx.int; cases ry.int; cases e; exact wO_of op_le ⟨i, j, rfl, rfl, q⟩
  · rename_i i j; cases rx.int; cases ry.int; cases e; exact wO_of op_gt ⟨i, j, rfl, rfl, q⟩
  · rename_i i j; cases rx.int; cases ry.int; cases e; exact wO_of op_ge ⟨i, j, rfl, rfl, q⟩
  · cases ry.none
    cases e
    refine wO_of op_isN ⟨rfl, ?_⟩
    have : decide (vx = .non) = isN x := by
      cases x with
      | none => cases rx.none; rfl
      | bool _ => cases rx.bool; rfl
      | int _ => cases rx.int; rfl
      | str _ => cases rx.str; rfl
      | list _ => obtain ⟨_, _, rfl, _⟩ := PkD.list s rx; rfl
      | tuple _ => obtain ⟨_, _, rfl, _⟩ := PkD.tuple s rx; rfl
      | dict _ =>
        rcases rx with rx | ⟨_, _, _, e, _⟩
        · simp only [VlR, Rp] at rx
          obtain ⟨_, _, rfl, _⟩ := rx
          rfl
        · cases e
    rw [this]; exact q
  · cases ry.none
    cases e
    refine wO_of op_notN ⟨rfl, ?_⟩
    have : (!decide (vx = .non)) = !isN x := by
      cases x with
      | none => cases rx.none; rfl
      | bool _ => cases rx.bool; rfl
      | int _ => cases rx.int; rfl
      | str _ => cases rx.str; rfl
      | list _ => obtain ⟨_, _, rfl, _⟩ := PkD.list s rx; rfl
      | tuple _ => obtain ⟨_, _, rfl, _⟩ := PkD.tuple s rx; rfl
      | dict _ =>
        rcases rx with rx | ⟨_, _, _, e, _⟩
        · simp only [VlR, Rp] at rx
          obtain ⟨_, _, rfl, _⟩ := rx
          rfl
        · cases e
    rw [this]; exact q
  · rename_i a b'; cases rx.bool; cases ry.bool; cases e
    exact wO_of op_is_bl ⟨a, b', rfl, rfl, by rw [← Bool.beq_eq_decide_eq]; exact q⟩
  · rename_i a b'; cases rx.bool; cases ry.bool; cases e
    exact wO_of op_isnot_bl ⟨a, b', rfl, rfl, by rw [← Bool.beq_eq_decide_eq]; exact q⟩
  · exact (in_ok hK hu s rx ry (.inr rfl) e).1 Q q
  · exact (in_ok hK hu s rx ry (.inl rfl) e).1 Q q
  · rename_i a z; cases rx.str; cases ry.str
    obtain ⟨c, rfl, rfl⟩ := inS_some e
    exact wO_of op_in_sign ⟨c, z, rfl, rfl, q⟩
  · rename_i a z; cases rx.str; cases ry.str
    obtain ⟨b', e1, rfl⟩ := Option.map_eq_some_iff.mp e
    obtain ⟨c, rfl, rfl⟩ := inS_some e1
    exact wO_of op_notIn_sign ⟨c, z, rfl, rfl, q⟩
  · obtain ⟨c, e1, rfl⟩ := Option.map_eq_some_iff.mp e
    exact (in_ok hK hu s rx ry (.inr rfl) e1).2 Q q
  · obtain ⟨c, e1, rfl⟩ := Option.map_eq_some_iff.mp e
    exact (in_ok hK hu s rx ry (.inl rfl) e1).2 Q q
  · cases e

/-! + - * and the rest -/
theorem intsBits {i : Int} (h : okI i = true) : Builtin.Int.intBits i ≤ 6651 := by
  have := okI_log h
  unfold Builtin.Int.intBits
  split <;> omega
theorem foldl_app (x : Array Nat) : ∀ (n : Nat) (acc : Array Nat), ((List.replicate n x).foldl (· ++ ·) acc).toList = acc.toList ++ (List.replicate n x.toList).flatten
  | 0, acc => by simp
  | n + 1, acc => by
    rw [List.replicate_succ, List.foldl_cons, foldl_app x n, List.replicate_succ, List.flatten_cons, Array.toList_append, List.append_assoc]
theorem repS_eq (n : Nat) (x : Str) : (⟨(List.replicate n x.cps).foldl (· ++ ·) #[]⟩ : Str) = repS n x := by
  unfold repS
  congr 1
  refine Array.toList_inj.mp ?_
  rw [foldl_app, List.toList_toArray]
  rfl
theorem str_mul_ok {x : Str} {n : Int} {pins : List (Addr × Obj)} {s1 : Shared} {t u : Tok} (I : Inv X pins σ H s1) (c : 0 ≤ n ∧ n ≤ 10000 ∧ x.length ≤ 1000) {Q : VK} (q : Q (.str (repS n.toNat x)) H) :
    wpAny (model X.prog X.w) X.A (binaryOp .Mult (.str x t) (.int n u)) (EP X pins σ Q) X.xe s1 := by
  have len : (repS n.toNat x).length = n.toNat * x.length := by
    show (((List.replicate n.toNat x.cps.toList).flatten).toArray).size = _
    rw [List.size_toArray, List.length_flatten]
    simp [Str.length]
  have big : n.toNat * x.length ≤ sizeLine := by
    rw [← szL]
    exact Nat.le_trans (Nat.mul_le_mul (show n.toNat ≤ 10000 by omega) c.2.2) (by decide)
  refine PySem.P.mul_str (by rw [decide_eq_false (by omega), decide_eq_false (by omega)]; rfl) (fun h1 _ => ?_) (fun _ _ => ?_) ?_
  · have : (x.length : Int) * n ≤ 2 ^ 63 - 1 := by
      have a : (x.length : Int) * n ≤ 1000 * 10000 := Int.mul_le_mul (by omega) c.2.1 c.1 (by decide)
      omega
    have := Int.le_ediv_of_mul_le (show 0 < n by omega) this
    omega
  · unfold Builtin.Str.tooLong
    rw [Nat.mul_comm]
    exact decide_eq_false (by omega)
  · by_cases h1 : n < 1
    · rw [if_pos h1]
      have e : n.toNat = 0 := by omega
      rw [e] at q
      exact ⟨by decide, .str _, H, I.tok _, ⟨_, rfl⟩, q⟩
    · rw [if_neg h1]
      by_cases h2 : (n == 1 || x.length == 0) = true
      · rw [if_pos h2]
        have e : repS n.toNat x = x := by
          refine TL.ext_tl ?_
          show (List.replicate n.toNat x.cps.toList).flatten = x.cps.toList
          rw [Bool.or_eq_true] at h2
          rcases h2 with h2 | h2
          · have : n = 1 := by simpa using h2
            subst this
            show [x.cps.toList].flatten = _
            simp
          · have h0 : x.cps.toList = [] := by
              have : x.cps.size = 0 := by simpa [Str.length] using h2
              exact List.length_eq_zero_iff.mp (by rw [Array.length_toList]; exact this)
            rw [h0]
            simp
        rw [e] at q
        exact ⟨.str x, H, I, ⟨_, rfl⟩, q⟩
      · rw [if_neg h2, repS_eq]
        exact ⟨by rw [len]; exact big, .str _, H, I.tok _, ⟨_, rfl⟩, q⟩
theorem bin_ok {op : Operator} {x y z : PyData} {vx vy : V} (hK : X.K = pg.K) (s : Sim pg.K g h H) (rx : PkD pg.K g H x vx) (ry : PkD pg.K g H y vy) (e : binD op x y = some z) {Q : VK}
    (hQ : ∀ v H' g', Sim pg.K g' h H' → Pres g H g' H' → VlRel pg.K g' H' (.d z) v → Q v H') : wO X (binaryOp op) σ vx vy H Q := by
  unfold binD at e
  split at e
  · cases rx.int; cases ry.int; cases e
    exact wO_of op_add ⟨_, _, rfl, rfl, ok_int s hQ⟩
  · cases rx.str; cases ry.str
    split at e
    · rename_i c; cases e
      exact wO_of op_add_str ⟨_, _, rfl, rfl, szL ▸ c, ok_str s hQ⟩
    · cases e
  · split at e
    · rename_i c; cases e
      obtain ⟨a, vs, rfl, hq, r⟩ := PkD.list s rx
      obtain ⟨b, ws, rfl, hq2, r2⟩ := PkD.list s ry
      exact wO_of op_cat ⟨a, b, vs, ws, rfl, rfl, hq, hq2, by rw [r.length, r2.length]; exact szL ▸ c, ok_lst s (r.append r2) hQ⟩
    · cases e
  · split at e
    · rename_i xs ys c; cases e
      obtain ⟨a, vs, rfl, hq, r⟩ := PkD.tuple s rx
      obtain ⟨b, ws, rfl, hq2, r2⟩ := PkD.tuple s ry
      refine wO_of op_catA ⟨a, b, vs, ws, rfl, rfl, hK ▸ hq, hK ▸ hq2, by rw [r.length, r2.length]; exact szL ▸ c, fun e0 => ?_, fun _ e0 => ?_, fun _ _ => ok_tup s (r.append r2) hQ⟩
      · subst e0
        have hx : xs = [] := List.length_eq_zero_iff.mp (r.length ▸ rfl)
        subst hx
        rcases ry with ry | ⟨_, _, _, e, _⟩
        · exact ok_it s ry hQ
        · cases e
      · subst e0
        have hy : ys = [] := List.length_eq_zero_iff.mp (r2.length ▸ rfl)
        subst hy
        rw [List.append_nil] at hQ
        rcases rx with rx | ⟨_, _, _, e, _⟩
        · exact ok_it s rx hQ
        · cases e
    · cases e
  · cases rx.int; cases ry.int; cases e
    exact wO_of op_sub ⟨_, _, rfl, rfl, ok_int s hQ⟩
  · cases rx.int; cases ry.int
    split at e
    · rename_i i j c; cases e
      rw [Bool.and_eq_true] at c
      have h1 := okI_log c.1
      have h2 := okI_log c.2
      exact wO_of op_mulW ⟨_, _, rfl, rfl, by unfold CMulW; omega, ok_int s hQ⟩
    · cases e
  · split at e
    · rename_i xs n c; cases e
      obtain ⟨a, vs, rfl, hq, r⟩ := PkD.list s rx
      cases ry.int
      refine wO_of op_rep ⟨a, n, vs, rfl, rfl, hq, by omega, by omega, ?_, ok_lst s (r.rep _) hQ⟩
      rw [r.length, ← szL]
      exact Nat.le_trans (Nat.mul_le_mul c.2.2 (show n.toNat ≤ 1000 by omega)) (by decide)
    · cases e
  · split at e
    · rename_i xs n c; cases e
      obtain ⟨a, vs, rfl, hq, r⟩ := PkD.tuple s rx
      cases ry.int
      refine wO_of op_repT ⟨a, n, vs, rfl, rfl, hK ▸ hq, fun e0 => ?_, c.1, c.2.1, by rw [r.length]; exact c.2.2.1, ok_tup s (r.rep _) hQ⟩
      subst e0
      have hx : xs = [] := List.length_eq_zero_iff.mp (r.length ▸ rfl)
      subst hx
      cases c.2.2.2
    · cases e
  · split at e
    · rename_i x n c; cases e
      cases rx.str; cases ry.int
      refine fun pins s1 v u I rv ru => ?_
      obtain ⟨t, rfl⟩ := rv
      obtain ⟨t', rfl⟩ := ru
      exact str_mul_ok I c (ok_str s hQ)
    · cases e
  · cases rx.int; cases ry.int
    split at e
    · rename_i i j c; cases e
      rw [Bool.and_eq_true] at c
      have h2 := okI_log c.2
      exact wO_of op_fdivW ⟨_, _, rfl, rfl, ⟨of_decide_eq_true c.1, by omega⟩, ok_int s hQ⟩
    · cases e
  · cases rx.int; cases ry.int
    split at e
    · rename_i i j c; cases e
      exact wO_of op_mod ⟨_, _, rfl, rfl, c, ok_int s hQ⟩
    · cases e
  · cases rx.int; cases ry.int
    split at e
    · rename_i i j c; cases e
      rw [Bool.and_eq_true] at c
      have c1 := of_decide_eq_true c.1
      have hb := intsBits c.2
      refine fun pins s1 v u I rv ru => ?_
      obtain ⟨t, rfl⟩ := rv
      obtain ⟨t', rfl⟩ := ru
      refine PyProof.Rows.pow_int c1.1 ?_ ⟨.int _, H, I.tok _, ⟨_, rfl⟩, ok_int s hQ⟩
      have h1 : (Builtin.Int.intBits i : Int) ≤ 6651 := by omega
      have h2 : (Builtin.Int.intBits i : Int) * j ≤ 6651 * 100 := Int.mul_le_mul h1 c1.2 c1.1 (by decide)
      omega
    · cases e
  · cases rx.int; cases ry.int; cases e
    exact wO_of op_and ⟨_, _, rfl, rfl, ok_int s hQ⟩
  · cases rx.int; cases ry.int; cases e
    exact wO_of op_or ⟨_, _, rfl, rfl, ok_int s hQ⟩
  · cases e
/-- op= : on numbers and texts as op -/
theorem aug_ok {op : Operator} {x y z : PyData} {vx vy : V} (hK : X.K = pg.K) (s : Sim pg.K g h H) (rx : PkD pg.K g H x vx) (ry : PkD pg.K g H y vy) (f : flatD x = true) (e : binD op x y = some z) (hop : op = .Add ∨ op = .Sub) {Q : VK}
    (hQ : ∀ v H' g', Sim pg.K g' h H' → Pres g H g' H' → VlRel pg.K g' H' (.d z) v → Q v H') : wO X (inplaceOp op) σ vx vy H Q := by
  unfold binD at e
  split at e
  · cases rx.int; cases ry.int; cases e
    exact wO_of iop_add ⟨_, _, rfl, rfl, ok_int s hQ⟩
  · cases rx.str; cases ry.str
    split at e
    · rename_i c; cases e
      exact wO_of iop_add_str ⟨_, _, rfl, rfl, szL ▸ c, ok_str s hQ⟩
    · cases e
  · cases f
  · cases f
  · cases rx.int; cases ry.int; cases e
    exact wO_of iop_sub ⟨_, _, rfl, rfl, ok_int s hQ⟩
  all_goals first | (rcases hop with h | h <;> cases h; done) | (cases e; done)

/-! truth -/
theorem tru_D {x : PyData} {v : V} (hK : X.K = pg.K) (s : Sim pg.K g h H) (r : PkD pg.K g H x v) {b : Bool} (e : truD x = some b) : TruV X.K v H b := by
  cases x with
  | none => cases r.none; cases e; rfl
  | bool _ => cases r.bool; cases e; rfl
  | int _ => cases r.int; cases e; rfl
  | str t =>
    cases r.str
    simp only [truD] at e
    split at e
    · rename_i c
      cases e
      refine ⟨szL ▸ c, ?_⟩
      by_cases h0 : t.length = 0
      · simp [h0]
      · have : ((t.length : Int) != 0) = true := by simp; omega
        rw [this]
        simp [h0]
    · cases e
  | list xs =>
    obtain ⟨a, vs, rfl, hq, rl⟩ := PkD.list s r
    cases e
    refine .inl ⟨vs, .of hq, ?_⟩
    have := rl.length
    cases xs <;> cases vs <;> simp at this ⊢
  | tuple xs =>
    obtain ⟨a, vs, rfl, hq, rl⟩ := PkD.tuple s r
    cases e
    refine .inr (.inl ⟨vs, hK ▸ hq, ?_⟩)
    have := rl.length
    cases xs <;> cases vs <;> simp at this ⊢
  | dict _ => cases e
theorem tru_V {x : Vl} {v : V} (hK : X.K = pg.K) (s : Sim pg.K g h H) (r : PkR pg.K g H x v) {b : Bool} (e : truV x = some b) : TruV X.K v H b := by
  cases x with
  | d x => exact tru_D hK s r e
  | ref _ => cases e
  | fn _ => cases e
  | scr _ => cases e
end
end Mi
/-! Mi: subscripts, slices, built-in calls on data. -/
namespace Mi
open PySem PySem.Spec PyProof.Rows L2
def wX (X : Cx) (σ : Sg) (x y : V) (H : Hp) (Q : VK) : Prop :=
  ∀ (value slice : Expr) (pins : List (Addr × Obj)) (s : Shared) (v u : Value), Inv X pins σ H s → RelV x v → RelV y u → subscripted slice false v u = operate [v, u] (getItem v u) → wpAny (model X.prog X.w) X.A (subscriptTail value slice v u) (EP X pins σ Q) X.xe s
theorem ixR_w {X : Cx} : IxR X (fun x y H Q => ∀ σ, wX X σ x y H Q) := fun value slice pins s σ H x y v u Q I rx ry h hs => h σ value slice pins s v u I rx ry hs
theorem wX_of {X : Cx} {σ : Sg} {x y : V} {H : Hp} {Q : VK} {r : L2.R2} (p : IxR X r) (h : r x y H Q) : wX X σ x y H Q := fun value slice pins s v u I rx ry hs => p value slice pins s σ H x y v u Q I rx ry h hs
def wSl (X : Cx) (σ : Sg) (x : V) (lo hi : Option Int) (H : Hp) (Q : VK) : Prop := ∀ (pins : List (Addr × Obj)) (s : Shared) (v vl vu : Value) (sl : Addr), Inv X pins σ H s → RelV x v → s.heap.IsSliceOf sl vl vu .none → IsPart vl lo → IsPart vu hi →
  ∃ T id, typeLookup (.type T) "__getitem__" = pure (some (.builtin id)) ∧ s.TypeIs v T ∧ wpAny (model X.prog X.w) X.A (getItem v (.ref sl)) (EP X pins σ Q) X.xe s
theorem slR_w {X : Cx} : L2.SlR X (fun x lo hi H Q => ∀ σ, wSl X σ x lo hi H Q) := fun pins s σ H x v vl vu lo hi sl Q I rx h1 h2 h3 h => h σ pins s v vl vu sl I rx h1 h2 h3
theorem wSl_of {X : Cx} {σ : Sg} {x : V} {lo hi : Option Int} {H : Hp} {Q : VK} {r : V → Option Int → Option Int → Hp → VK → Prop} (p : L2.SlR X r) (h : r x lo hi H Q) : wSl X σ x lo hi H Q := fun pins s v vl vu sl I rx h1 h2 h3 => p pins s σ H x v vl vu lo hi sl Q I rx h1 h2 h3 h

section
variable {pg : Pg} {X : Cx} {g : Gh} {H : Hp} {h : Sh} {σ : Sg}
theorem atI_get {α : Type} {xs : List α} {i : Int} {x : α} (e : atI xs i = some x) : ∃ j, ixN xs.length i = some j ∧ xs[j]? = some x := by
  unfold atI at e
  cases q : ixN xs.length i with
  | none => rw [q] at e; cases e
  | some j => rw [q] at e; exact ⟨j, rfl, e⟩
theorem RpL.atI {K : PySem.W.Frag} {Z : Hp} {ds : List PyData} {vs : List V} {i : Int} {x : PyData} (r : RpL K Z ds vs) (e : L2.atI ds i = some x) : ∃ v, L2.atI vs i = some v ∧ Rp K Z x v := by
  obtain ⟨j, e1, e2⟩ := atI_get e
  obtain ⟨v, e3, r3⟩ := r.get e2
  refine ⟨v, ?_, r3⟩
  unfold L2.atI
  rw [r.length, e1]
  exact e3
theorem ix_ok {x y : Vl} {z : PyData} {vx vy : V} (hK : X.K = pg.K) (s : Sim pg.K g h H) (rx : PkR pg.K g H x vx) (ry : PkR pg.K g H y vy) (e : ixV h x y = some z) {Q : VK}
    (hQ : ∀ v H' g', Sim pg.K g' h H' → Pres g H g' H' → VlRel pg.K g' H' (.d z) v → Q v H') : wX X σ vx vy H Q := by
  unfold ixV at e
  split at e
  · rename_i x i
    cases (show vy = .int i from PkD.int ry)
    unfold ixD at e
    split at e
    · obtain ⟨a, vs, rfl, hq, r⟩ := PkD.tuple s rx
      obtain ⟨v, e1, r1⟩ := r.atI e
      exact wX_of ix_tup ⟨a, vs, i, v, rfl, rfl, hK ▸ hq, e1, ok_it s r1 hQ⟩
    · obtain ⟨a, vs, rfl, hq, r⟩ := PkD.list s rx
      obtain ⟨v, e1, r1⟩ := r.atI e
      exact wX_of ix_list ⟨a, vs, i, v, rfl, rfl, .of hq, e1, ok_it s r1 hQ⟩
    · rename_i t
      cases (show vx = .str t from PkD.str rx)
      split at e
      · rename_i c
        obtain ⟨k, e1, rfl⟩ := Option.map_eq_some_iff.mp e
        exact wX_of ix_str ⟨t, i, k, rfl, rfl, szL ▸ c, e1, ok_str s hQ⟩
      · cases e
    · cases e
  · rename_i n i
    cases (show vy = .int i from PkD.int ry)
    rcases rx with ⟨a, ea, rfl⟩ | ⟨_, _, _, e0, _⟩
    · split at e
      · rename_i xs hn
        obtain ⟨b, eb, vs, hb, r⟩ := s.obj n _ hn
        rw [ea] at eb; cases eb
        obtain ⟨v, e1, r1⟩ := r.atI e
        exact wX_of ix_list ⟨a, vs, i, v, rfl, rfl, .of hb, e1, ok_it s r1 hQ⟩
      · cases e
    · cases e0
  · rename_i xs i
    cases (show vy = .int i from PkD.int ry)
    rcases rx with ⟨a, rfl, hb⟩ | ⟨_, _, _, e0, _⟩
    · obtain ⟨k, e1, rfl⟩ := Option.map_eq_some_iff.mp e
      refine wX_of ix_list ⟨a, xs.map V.int, i, .int k, rfl, rfl, hK ▸ sqL_mono s.sub hb, ?_, ok_int s hQ⟩
      obtain ⟨j, q1, q2⟩ := atI_get e1
      unfold atI
      rw [List.length_map, q1]
      show (xs.map V.int)[j]? = _
      rw [List.getElem?_map, q2]
      rfl
    · cases e0
  · cases e
theorem slice_ok {x z : PyData} {vx : V} {lo hi : Option Int} (hK : X.K = pg.K) (s : Sim pg.K g h H) (rx : PkD pg.K g H x vx) (e : sliceD x lo hi = some z) {Q : VK}
    (hQ : ∀ v H' g', Sim pg.K g' h H' → Pres g H g' H' → VlRel pg.K g' H' (.d z) v → Q v H') : wSl X σ vx lo hi H Q := by
  unfold sliceD at e
  split at e
  · rename_i xs
    cases e
    obtain ⟨a, vs, rfl, hq, r⟩ := PkD.tuple s rx
    refine wSl_of sl_tupA ⟨a, vs, rfl, hK ▸ hq, fun c => ?_, fun _ => ok_tup s (r.cut lo hi) hQ⟩
    have ec : cut xs lo hi = xs := by
      unfold cut
      rw [← r.length, c.1, c.2, r.length, List.drop_zero, Nat.sub_zero, List.take_length]
    rw [ec] at hQ
    rcases rx with rx | ⟨_, _, _, e, _⟩
    · exact ok_it s rx hQ
    · cases e
  · rename_i xs
    cases e
    obtain ⟨a, vs, rfl, hq, r⟩ := PkD.list s rx
    exact wSl_of sl_list ⟨a, vs, rfl, .of hq, ok_lst s (r.cut lo hi) hQ⟩
  · rename_i t
    cases rx.str
    split at e
    · rename_i c
      cases e
      exact wSl_of sl_str ⟨t, rfl, szL ▸ c, ok_str s hQ⟩
    · cases e
  · cases e

/-! ### repr -/
mutual
/-- data as it lies; no dict is the table of the modules -/
inductive RdS (hp : Heap) : Value → PyData → Prop
  | none : RdS hp .none .none
  | bool (b : Bool) : RdS hp (.bool b) (.bool b)
  | int (i : Int) (t : Tok) : RdS hp (.int i t) (.int i)
  | str (x : Str) (t : Tok) : RdS hp (.str x t) (.str x)
  | list {a : Addr} {o : Obj} {vs : Array Value} {n : Nat} {xs : List PyData} : hp.get? a = some o → o.cls = .type "list" → o.data = .seq vs n → RdSL hp vs.toList xs → RdS hp (.ref a) (.list xs)
  | tuple {a : Addr} {o : Obj} {vs : Array Value} {n : Nat} {xs : List PyData} : hp.get? a = some o → o.cls = .type "tuple" → o.data = .seq vs n → RdSL hp vs.toList xs → RdS hp (.ref a) (.tuple xs)
  | dict {a : Addr} {o : Obj} {es : Array DictEntry} {n : Nat} {kvs : List (PyData × PyData)} : (a == sysModules) = false → hp.get? a = some o → o.cls = .type "dict" → o.data = .dict es n →
      RdSL hp (es.toList.map (·.key)) (kvs.map (·.1)) → RdSL hp (es.toList.map (·.val)) (kvs.map (·.2)) → RdS hp (.ref a) (.dict kvs)
inductive RdSL (hp : Heap) : List Value → List PyData → Prop
  | nil : RdSL hp [] []
  | cons {v : Value} {vs : List Value} {d : PyData} {ds : List PyData} : RdS hp v d → RdSL hp vs ds → RdSL hp (v :: vs) (d :: ds)
end
mutual
theorem RdS.reads {hp : Heap} : ∀ {v : Value} {d : PyData}, RdS hp v d → ∃ as, Reads hp v d as
  | _, _, .none => ⟨_, .none⟩
  | _, _, .bool b => ⟨_, .bool b⟩
  | _, _, .int i t => ⟨_, .int i t⟩
  | _, _, .str x t => ⟨_, .str x t⟩
  | _, _, .list e1 e2 e3 e4 => let ⟨_, q⟩ := RdSL.reads e4; ⟨_, .list e1 e2 e3 q⟩
  | _, _, .tuple e1 e2 e3 e4 => let ⟨_, q⟩ := RdSL.reads e4; ⟨_, .tuple e1 e2 e3 q⟩
  | _, _, .dict _ e1 e2 e3 e4 e5 => let ⟨_, q⟩ := RdSL.reads e4; let ⟨_, q2⟩ := RdSL.reads e5; ⟨_, .dict e1 e2 e3 q q2⟩
theorem RdSL.reads {hp : Heap} : ∀ {vs : List Value} {ds : List PyData}, RdSL hp vs ds → ∃ as, ReadsAll hp vs ds as
  | _, _, .nil => ⟨_, .nil⟩
  | _, _, .cons r t => let ⟨_, q⟩ := RdS.reads r; let ⟨_, q2⟩ := RdSL.reads t; ⟨_, .cons q q2⟩
end
section
variable {P : Program} {w : World} {hp : Heap}
mutual
theorem RdS.shows : ∀ {v : Value} {d : PyData}, RdS hp v d → d.showable = true → d.shown.length ≤ sizeLine → ∃ bs, ReadAtMost hp d.depth bs ∧ ReprK P w bs hp d.depth v d.shown
  | _, _, .none, _, _ => ⟨[], (fun _ m => nomatch m), by rw [PyData.shown]; exact .of_is ReprIs.none _ _ _⟩
  | _, _, .bool b, _, _ => ⟨[], (fun _ m => nomatch m), by rw [PyData.shown]; exact .of_is (ReprIs.bool b) _ _ _⟩
  | _, _, .int i t, c, _ => ⟨[], (fun _ m => nomatch m), by rw [PyData.shown]; exact .of_is (ReprIs.int t (by rw [PyData.showable] at c; exact of_decide_eq_true c)) _ _ _⟩
  | _, _, .str x t, _, z => ⟨[], (fun _ m => nomatch m), by rw [PyData.shown] at z ⊢; exact .of_is (ReprIs.str x t z) _ _ _⟩
  | _, _, .list (a := a) (vs := vs) (xs := xs) e1 e2 e3 e4, c, z => by
    rw [PyData.shown] at z
    rw [PyData.showable] at c
    obtain ⟨bs, q1, q2⟩ := RdSL.shows e4 c fun t m => Nat.le_trans (listText_mem_le m) z
    obtain ⟨as, q3⟩ := RdSL.reads e4
    have rd : Reads hp (.ref a) (.list xs) _ := .list e1 e2 e3 q3
    have na : a ∉ bs := not_mem_of_deeper rd (by rw [PyData.depth]; omega) q1
    refine ⟨a :: bs, ReadAtMost.cons rd (by rw [PyData.depth]; omega) q1, ?_⟩
    rw [PyData.depth, PyData.shown]
    obtain ⟨l⟩ := vs
    cases l with
    | nil =>
      cases (show RdSL hp [] xs from e4)
      rw [PyData.shownAll, listText_nil]
      exact ReprK.listEmpty e1 e2 e3
    | cons x l => exact ReprK.list e1 e2 e3 na (by simpa using q2.length_eq) fun i y e => q2.item i y (by simpa using e)
  | _, _, .tuple (a := a) (vs := vs) (xs := xs) e1 e2 e3 e4, c, z => by
    rw [PyData.shown] at z
    rw [PyData.showable] at c
    obtain ⟨bs, q1, q2⟩ := RdSL.shows e4 c fun t m => Nat.le_trans (tupleText_mem_le m) z
    obtain ⟨as, q3⟩ := RdSL.reads e4
    have rd : Reads hp (.ref a) (.tuple xs) _ := .tuple e1 e2 e3 q3
    refine ⟨a :: bs, ReadAtMost.cons rd (by rw [PyData.depth]; omega) q1, ?_⟩
    rw [PyData.depth, PyData.shown]
    exact ReprK.tuple e1 e2 e3 (not_mem_of_deeper rd (by rw [PyData.depth]; omega) q1) q2
  | _, _, .dict (a := a) (es := es) (kvs := kvs) e0 e1 e2 e3 e4 e5, c, z => by
    rw [PyData.shown] at z
    rw [PyData.showable] at c
    obtain ⟨c1, c2⟩ := PyData.showableKv_split kvs c
    obtain ⟨b1, q1, k1⟩ := RdSL.shows e4 c1 fun t m => let ⟨_, m2, l⟩ := PyData.shownKv_key_le kvs t m; Nat.le_trans l (Nat.le_trans (dictText_mem_le m2) z)
    obtain ⟨b2, q2, k2⟩ := RdSL.shows e5 c2 fun t m => let ⟨_, m2, l⟩ := PyData.shownKv_val_le kvs t m; Nat.le_trans l (Nat.le_trans (dictText_mem_le m2) z)
    obtain ⟨as, r1⟩ := RdSL.reads e4
    obtain ⟨as2, r2⟩ := RdSL.reads e5
    have qb : ReadAtMost hp (PyData.depthKv kvs) (b1 ++ b2) := (q1.mono (PyData.depthAll_keys_le kvs)).append (q2.mono (PyData.depthAll_vals_le kvs))
    have rd : Reads hp (.ref a) (.dict kvs) _ := .dict e1 e2 e3 r1 r2
    refine ⟨a :: (b1 ++ b2), ReadAtMost.cons rd (by rw [PyData.depth]; omega) qb, ?_⟩
    rw [PyData.depth, PyData.shown, PyData.shownKv_eq]
    exact ReprK.dict e1 e2 e3 e0 (not_mem_of_deeper rd (by rw [PyData.depth]; omega) qb) (ReprEntriesK.of_two es.toList _ _
      (k1.more_le (fun b m => List.mem_append_left _ m) (PyData.depthAll_keys_le kvs)) (k2.more_le (fun b m => List.mem_append_right _ m) (PyData.depthAll_vals_le kvs)))
theorem RdSL.shows : ∀ {vs : List Value} {ds : List PyData}, RdSL hp vs ds → PyData.showableAll ds = true → (∀ t ∈ PyData.shownAll ds, t.length ≤ sizeLine) → ∃ bs, ReadAtMost hp (PyData.depthAll ds) bs ∧ ReprAllK P w bs hp (PyData.depthAll ds) vs (PyData.shownAll ds)
  | _, _, .nil, _, _ => ⟨[], (fun _ m => nomatch m), by rw [PyData.shownAll]; exact .nil⟩
  | _, _, .cons (d := d) (ds := ds) r t, c, z => by
    rw [PyData.showableAll, Bool.and_eq_true] at c
    rw [PyData.shownAll] at z
    obtain ⟨b1, q1, k1⟩ := RdS.shows r c.1 (z _ List.mem_cons_self)
    obtain ⟨b2, q2, k2⟩ := RdSL.shows t c.2 fun x m => z x (List.mem_cons_of_mem _ m)
    refine ⟨b1 ++ b2, ?_, ?_⟩
    · rw [PyData.depthAll]
      exact (q1.mono (Nat.le_max_left _ _)).append (q2.mono (Nat.le_max_right _ _))
    · rw [PyData.depthAll, PyData.shownAll]
      exact .cons ((k1.more fun b m => List.mem_append_left _ m).level_le (Nat.le_max_left _ _)) (k2.more_le (fun b m => List.mem_append_right _ m) (Nat.le_max_right _ _))
end
end
mutual
theorem Rp.rds {pins : List (Addr × Obj)} {s1 : Shared} {Z : Hp} (m : ∀ a o, Z a = some o → H a = some o) (I : Inv X pins σ H s1) : ∀ (d : PyData) (v : V) (u : Value), Rp X.K Z d v → RelV v u → RdS s1.heap u d
  | .none, _, _, r, ru => by simp only [Rp] at r; subst r; cases ru; exact .none
  | .bool b, _, _, r, ru => by simp only [Rp] at r; subst r; cases ru; exact .bool b
  | .int i, _, _, r, ru => by simp only [Rp] at r; subst r; obtain ⟨t, rfl⟩ := ru; exact .int i t
  | .str x, _, _, r, ru => by simp only [Rp] at r; subst r; obtain ⟨t, rfl⟩ := ru; exact .str x t
  | .list xs, _, _, r, ru => by
    simp only [Rp] at r
    obtain ⟨a, vs, rfl, hz, rl⟩ := r
    cases ru
    obtain ⟨its, rv, ⟨o, n, e1, e2, _, e3⟩, _⟩ := I.list (.of (m _ _ hz))
    exact .list e1 e2 e3 (RpL.rds m I xs vs its rl rv)
  | .tuple xs, _, _, r, ru => by
    simp only [Rp] at r
    obtain ⟨a, vs, rfl, hz, rl⟩ := r
    cases ru
    obtain ⟨its, rv, ⟨o, e1, e2, n, e3⟩, _⟩ := I.tuple (sqT_mono m hz)
    exact .tuple e1 e2 e3 (RpL.rds m I xs vs its rl rv)
  | .dict kvs, _, _, r, ru => by
    simp only [Rp] at r
    obtain ⟨a, l, rfl, hz, rl⟩ := r
    cases ru
    obtain ⟨_, ns, vs, kv, o, es, ep, e1, e2, e3, _, pr, _⟩ := I.hok a _ (m _ _ hz)
    obtain ⟨q1, q2⟩ := RpM.rds m I kvs l vs es.toList rl kv pr
    exact .dict ns e1 e2.1 e3 q1 q2
theorem RpL.rds {pins : List (Addr × Obj)} {s1 : Shared} {Z : Hp} (m : ∀ a o, Z a = some o → H a = some o) (I : Inv X pins σ H s1) : ∀ (ds : List PyData) (vs : List V) (us : List Value), RpL X.K Z ds vs → Vals vs us → RdSL s1.heap us ds
  | [], _, _, r, ru => by simp only [RpL] at r; subst r; cases ru; exact .nil
  | x :: xs, _, _, r, ru => by
    simp only [RpL] at r
    obtain ⟨v, t, rfl, r1, r2⟩ := r
    cases ru with
    | cons u1 u2 => exact .cons (Rp.rds m I x v _ r1 u1) (RpL.rds m I xs t _ r2 u2)
theorem RpM.rds {pins : List (Addr × Obj)} {s1 : Shared} {Z : Hp} (m : ∀ a o, Z a = some o → H a = some o) (I : Inv X pins σ H s1) : ∀ (kvs : List (PyData × PyData)) (l : List (Key × V)) (vs : List (Key × Value)) (es : List DictEntry), RpM X.K Z kvs l → KV l vs → Pairs (mixKind X.prog X.w) es vs →
    RdSL s1.heap (es.map (·.key)) (kvs.map (·.1)) ∧ RdSL s1.heap (es.map (·.val)) (kvs.map (·.2))
  | [], _, _, _, r, kv, pr => by
    simp only [RpM] at r
    subst r
    cases kv
    cases pr
    exact ⟨.nil, .nil⟩
  | (k, d) :: xs, _, _, _, r, kv, pr => by
    simp only [RpM] at r
    obtain ⟨q, v, t, rfl, hk, r1, r2⟩ := r
    cases kv with
    | cons k1 k2 =>
      cases pr with
      | cons p1 p2 p3 =>
        obtain ⟨g1, g2⟩ := RpM.rds m I xs t _ _ r2 k2 p3
        obtain ⟨ke, ve⟩ := k1
        refine ⟨.cons ?_ g1, .cons (Rp.rds m I d v _ r1 (by dsimp only; rw [p2]; exact ve)) g2⟩
        have p1' : keyIs _ _ = true := p1
        rw [← ke] at p1'
        cases k <;> simp [keyD] at hk
        · subst hk
          obtain ⟨tk, e⟩ := Value.isInt_shape p1'
          dsimp only; rw [e]; exact .int _ tk
        · subst hk
          obtain ⟨tk, e⟩ := Value.isStrOf_shape p1'
          dsimp only; rw [e]; exact .str _ tk
end
theorem repr_ok {x : PyData} {v : V} (hK : X.K = pg.K) (hg : X.A.guards = some []) (hu : X.A.units + 160 < cLine) (s : Sim pg.K g h H) (r : PkD pg.K g H x v) (c : showOk x = true) {Q : VK} (q : Q (.str x.shown) H) : wC X (.builtin "repr") σ [v] H Q := by
  intro pins s1 us I rv
  obtain ⟨u, rfl, ru⟩ : ∃ u, us = [u] ∧ RelV v u := by
    cases rv with
    | cons a b => cases b; exact ⟨_, rfl, a⟩
  have rd : RdS s1.heap u x := by
    rcases r with r | ⟨xs, a, vs, e, rfl, hH, _, r⟩
    · exact Rp.rds s.sub I x v u (hK ▸ r) ru
    · cases e
      cases ru
      obtain ⟨its, rv, ⟨o, n, e1, e2, _, e3⟩, _⟩ := I.list (.of hH)
      exact .list e1 e2 e3 (RpL.rds s.sub I xs vs its (hK ▸ r) rv)
  unfold showOk at c
  simp only [Bool.and_eq_true, decide_eq_true_eq] at c
  obtain ⟨⟨c1, c2⟩, c3⟩ := c
  have c2 : x.shown.length ≤ sizeLine := szL ▸ c2
  have fin : ∀ (h' : Heap) (tk : Tok) (n : Nat), (∀ b o, s1.heap.get? b = some o → h'.get? b = some o) → EP X pins σ Q (.str x.shown tk) { s1 with heap := h', toks := n } := fun h' tk n k => ⟨.str _, H, I.kept k, ⟨tk, rfl⟩, q⟩
  cases rd with
  | none => rw [PyData.shown] at fin; exact PySem.P.repr_of_none (fin _ _ _ fun _ _ e => e)
  | bool b => rw [PyData.shown] at fin; exact PySem.P.repr_of_bool (fin _ _ _ fun _ _ e => e)
  | int i t => rw [PyData.shown] at fin; rw [PyData.showable] at c1; exact PySem.P.repr_of_int (of_decide_eq_true c1) (fin _ _ _ fun _ _ e => e)
  | str y t => rw [PyData.shown] at fin c2; exact PySem.P.repr_of_str (fin _ _ _ fun _ _ e => e) c2
  | @list a o vs n xs e1 e2 e3 e4 =>
    rw [PyData.shown] at fin c2
    rw [PyData.showable] at c1
    rw [PyData.depth] at c3
    obtain ⟨bs, q1, q2⟩ := RdSL.shows (P := X.prog) (w := X.w) e4 c1 fun t m => Nat.le_trans (listText_mem_le m) c2
    obtain ⟨as, q3⟩ := RdSL.reads e4
    have na : a ∉ bs := not_mem_of_deeper (.list e1 e2 e3 q3) (by rw [PyData.depth]; omega) q1
    refine call_repr_slot (by omega) ⟨o, e1, e2⟩ F.slot_list_repr.toG ?_
    obtain ⟨l⟩ := vs
    cases l with
    | nil =>
      cases (show RdSL s1.heap [] xs from e4)
      rw [PyData.shownAll, listText_nil] at fin
      exact call_list_repr_empty ⟨o, e1, e2⟩ e1 e3 ⟨_, _, rfl, fin _ _ _ fun _ _ e => e⟩
    | cons y l => exact call_list_reprK e1 e2 e3 na (by simpa using q2.length_eq) (fun i z e => q2.item i z (by simpa using e)) hg (fun b _ => Clear.nil b) (by show X.A.units + 1 + _ < _; omega) (fun _ _ e => e) (fun h' u tk k => ⟨_, _, rfl, fin h' u tk k⟩) c2
  | @tuple a o vs n xs e1 e2 e3 e4 =>
    rw [PyData.shown] at fin c2
    rw [PyData.showable] at c1
    rw [PyData.depth] at c3
    obtain ⟨bs, q1, q2⟩ := RdSL.shows (P := X.prog) (w := X.w) e4 c1 fun t m => Nat.le_trans (tupleText_mem_le m) c2
    obtain ⟨as, q3⟩ := RdSL.reads e4
    refine call_repr_slot (by omega) ⟨o, e1, e2⟩ F.slot_tuple_repr ?_
    exact call_tuple_reprK e1 e2 e3 (not_mem_of_deeper (.tuple e1 e2 e3 q3) (by rw [PyData.depth]; omega) q1) q2 hg (fun b _ => Clear.nil b) (by show X.A.units + 1 + _ < _; omega) (fun _ _ e => e) (fun h' u tk k => ⟨_, _, rfl, fin h' u tk k⟩) c2
  | @dict a o es n kvs e0 e1 e2 e3 e4 e5 =>
    rw [PyData.shown] at fin c2
    rw [PyData.showable] at c1
    rw [PyData.depth] at c3
    obtain ⟨k1, k2⟩ := PyData.showableKv_split kvs c1
    obtain ⟨b1, q1, p1⟩ := RdSL.shows (P := X.prog) (w := X.w) e4 k1 fun t m => let ⟨_, m2, l⟩ := PyData.shownKv_key_le kvs t m; Nat.le_trans l (Nat.le_trans (dictText_mem_le m2) c2)
    obtain ⟨b2, q2, p2⟩ := RdSL.shows (P := X.prog) (w := X.w) e5 k2 fun t m => let ⟨_, m2, l⟩ := PyData.shownKv_val_le kvs t m; Nat.le_trans l (Nat.le_trans (dictText_mem_le m2) c2)
    obtain ⟨as, r1⟩ := RdSL.reads e4
    obtain ⟨as2, r2⟩ := RdSL.reads e5
    have qb : ReadAtMost s1.heap (PyData.depthKv kvs) (b1 ++ b2) := (q1.mono (PyData.depthAll_keys_le kvs)).append (q2.mono (PyData.depthAll_vals_le kvs))
    refine call_repr_slot (by omega) ⟨o, e1, e2⟩ F.slot_dict_repr ?_
    rw [PyData.shownKv_eq] at fin c2
    exact call_dict_reprK e1 e2 e3 e0 (not_mem_of_deeper (.dict e1 e2 e3 r1 r2) (by rw [PyData.depth]; omega) qb) (ReprEntriesK.of_two es.toList _ _
      (p1.more_le (fun b m => List.mem_append_left _ m) (PyData.depthAll_keys_le kvs)) (p2.more_le (fun b m => List.mem_append_right _ m) (PyData.depthAll_vals_le kvs))) hg (fun b _ => Clear.nil b) (by show X.A.units + 1 + _ < _; omega) (fun _ _ e => e) (fun h' u tk k => ⟨_, _, rfl, fin h' u tk k⟩) c2

/-- the built-in that stands behind a name -/
def biF : BI → Value
  | .len => .builtin "len"
  | .abs => .builtin "abs"
  | .min => .builtin "min"
  | .max => .builtin "max"
  | .sum => .builtin "sum"
  | .int => .type "int"
  | .str => .type "str"
  | .repr => .builtin "repr"
  | .tuple => .type "tuple"
  | .list => .type "list"
  | .all => .builtin "all"
  | .any => .builtin "any"
  | .sorted => .builtin "sorted"
def PkL (K : PySem.W.Frag) (g : Gh) (H : Hp) : List PyData → List V → Prop
  | [], vs => vs = []
  | x :: xs, vs => ∃ v r, vs = v :: r ∧ PkD K g H x v ∧ PkL K g H xs r
theorem maxL_spec : ∀ (r : List Int) (i : Int), (r.foldl (fun m x => if x > m then x else m) i) ∈ i :: r ∧ ∀ y ∈ i :: r, y ≤ r.foldl (fun m x => if x > m then x else m) i
  | [], i => ⟨by simp, fun y hy => by simp at hy; subst hy; exact Int.le_refl _⟩
  | x :: r, i => by
    rw [List.foldl_cons]
    obtain ⟨h1, h2⟩ := maxL_spec r (if x > i then x else i)
    have hle : i ≤ (if x > i then x else i) ∧ x ≤ (if x > i then x else i) := by split <;> omega
    refine ⟨?_, fun y hy => ?_⟩
    · rcases List.mem_cons.mp h1 with e | m
      · rw [e]
        split <;> simp
      · exact List.mem_cons_of_mem _ (List.mem_cons_of_mem _ m)
    · have h0 := h2 _ (List.mem_cons_self ..)
      rcases List.mem_cons.mp hy with rfl | hy
      · omega
      · rcases List.mem_cons.mp hy with rfl | hy
        · omega
        · exact h2 y (List.mem_cons_of_mem _ hy)
theorem minL_spec : ∀ (r : List Int) (i : Int), (r.foldl (fun m x => if x < m then x else m) i) ∈ i :: r ∧ ∀ y ∈ i :: r, r.foldl (fun m x => if x < m then x else m) i ≤ y
  | [], i => ⟨by simp, fun y hy => by simp at hy; subst hy; exact Int.le_refl _⟩
  | x :: r, i => by
    rw [List.foldl_cons]
    obtain ⟨h1, h2⟩ := minL_spec r (if x < i then x else i)
    have hle : (if x < i then x else i) ≤ i ∧ (if x < i then x else i) ≤ x := by split <;> omega
    refine ⟨?_, fun y hy => ?_⟩
    · rcases List.mem_cons.mp h1 with e | m
      · rw [e]
        split <;> simp
      · exact List.mem_cons_of_mem _ (List.mem_cons_of_mem _ m)
    · have h0 := h2 _ (List.mem_cons_self ..)
      rcases List.mem_cons.mp hy with rfl | hy
      · omega
      · rcases List.mem_cons.mp hy with rfl | hy
        · omega
        · exact h2 y (List.mem_cons_of_mem _ hy)
theorem bi_ok {b : BI} {xs : List PyData} {z : PyData} {vs : List V} (hK : X.K = pg.K) (hc : X.calm = true) (hg : X.A.guards = some []) (hu : X.A.units + 190 < cLine) (s : Sim pg.K g h H) (r : PkL pg.K g H xs vs) (e : biD b xs = some z) {Q : VK}
    (hQ : ∀ v H' g', Sim pg.K g' h H' → Pres g H g' H' → VlRel pg.K g' H' (.d z) v → Q v H') : wC X (biF b) σ vs H Q := by
  unfold biD at e
  split at e
  · simp only [PkL] at r; obtain ⟨_, _, rfl, r, rfl⟩ := r; cases e
    obtain ⟨a, ws, rfl, hq, rl⟩ := PkD.tuple s r
    exact wC_of call_len_seq ⟨a, ws, rfl, .inr (hK ▸ hq), by rw [rl.length]; exact ok_int s hQ⟩
  · simp only [PkL] at r; obtain ⟨_, _, rfl, r, rfl⟩ := r; cases e
    obtain ⟨a, ws, rfl, hq, rl⟩ := PkD.list s r
    exact wC_of call_len_seq ⟨a, ws, rfl, .inl (.of hq), by rw [rl.length]; exact ok_int s hQ⟩
  · simp only [PkL] at r; obtain ⟨_, _, rfl, r, rfl⟩ := r
    cases r.str
    split at e
    · rename_i c; cases e
      exact wC_of call_len_str ⟨_, rfl, szL ▸ c, ok_int s hQ⟩
    · cases e
  · simp only [PkL] at r; obtain ⟨_, _, rfl, r, rfl⟩ := r; cases e
    cases r.int
    exact wC_of call_abs ⟨_, rfl, ok_int s hQ⟩
  · simp only [PkL] at r; obtain ⟨_, _, rfl, r, _, _, rfl, r2, rfl⟩ := r; cases e
    cases r.int; cases r2.int
    exact wC_of (call_max2 hc) ⟨_, _, rfl, ok_int s hQ⟩
  · simp only [PkL] at r; obtain ⟨_, _, rfl, r, _, _, rfl, r2, rfl⟩ := r; cases e
    cases r.int; cases r2.int
    exact wC_of (call_min2 hc) ⟨_, _, rfl, ok_int s hQ⟩
  · simp only [PkL] at r; obtain ⟨_, _, rfl, r, rfl⟩ := r
    obtain ⟨a, ws, rfl, hq, rl⟩ := PkD.list s r
    obtain ⟨ns, e1, e2⟩ := Option.bind_eq_some_iff.mp e
    cases rl.ints e1
    cases ns with
    | nil => cases e2
    | cons i t =>
      cases e2
      obtain ⟨m1, m2⟩ := maxL_spec t i
      refine wC_of (cr_max hc) ⟨a, i :: t, rfl, .of hq, by simp, fun m hm hy => ?_⟩
      have : m = t.foldl (fun m x => if x > m then x else m) i := Int.le_antisymm (m2 m hm) (hy _ m1)
      rw [this]
      exact ok_int s hQ
  · simp only [PkL] at r; obtain ⟨_, _, rfl, r, rfl⟩ := r
    obtain ⟨a, ws, rfl, hq, rl⟩ := PkD.list s r
    obtain ⟨ns, e1, e2⟩ := Option.bind_eq_some_iff.mp e
    cases rl.ints e1
    cases ns with
    | nil => cases e2
    | cons i t =>
      cases e2
      obtain ⟨m1, m2⟩ := minL_spec t i
      refine wC_of (cr_min hc) ⟨a, i :: t, rfl, .of hq, by simp, fun m hm hy => ?_⟩
      have : m = t.foldl (fun m x => if x < m then x else m) i := Int.le_antisymm (hy _ m1) (m2 m hm)
      rw [this]
      exact ok_int s hQ
  · simp only [PkL] at r; obtain ⟨_, _, rfl, r, rfl⟩ := r
    obtain ⟨a, ws, rfl, hq, rl⟩ := PkD.list s r
    obtain ⟨ns, e1, rfl⟩ := Option.map_eq_some_iff.mp e
    cases rl.ints e1
    exact wC_of (cr_sum hc) ⟨a, ns, rfl, .of hq, ok_int s hQ⟩
  · simp only [PkL] at r; obtain ⟨_, _, rfl, r, rfl⟩ := r; cases e
    cases r.int
    exact wC_of call_int1 (.inl ⟨_, rfl, ok_int s hQ⟩)
  · simp only [PkL] at r; obtain ⟨_, _, rfl, r, rfl⟩ := r; cases e
    cases r.bool
    exact wC_of call_int1 (.inr ⟨_, rfl, ok_int s hQ⟩)
  · simp only [PkL] at r; obtain ⟨_, _, rfl, r, rfl⟩ := r
    cases r.str
    split at e
    · rename_i c
      obtain ⟨i, e1, rfl⟩ := Option.map_eq_some_iff.mp e
      exact wC_of call_int_str ⟨_, _, rfl, e1, c, ok_int s hQ⟩
    · cases e
  · simp only [PkL] at r; obtain ⟨_, _, rfl, r, rfl⟩ := r
    cases r.int
    split at e
    · rename_i c; cases e
      exact wC_of call_str_int ⟨_, rfl, okS_log c, ok_str s hQ⟩
    · cases e
  · simp only [PkL] at r; obtain ⟨_, _, rfl, r, rfl⟩ := r; cases e
    cases r.str
    exact wC_of SkE.call_str_str ⟨_, rfl, ok_str s hQ⟩
  · rename_i d
    simp only [PkL] at r; obtain ⟨v, _, rfl, r, rfl⟩ := r
    split at e
    · rename_i c; cases e
      exact repr_ok hK hg (by omega) s r c (ok_str s hQ)
    · cases e
  · simp only [PkL] at r; obtain ⟨_, _, rfl, r, rfl⟩ := r; cases e
    obtain ⟨a, ws, rfl, hq, rl⟩ := PkD.list s r
    exact wC_of call_tuple_of ⟨a, ws, rfl, .inl ⟨.of hq, ok_tup s rl hQ⟩⟩
  · simp only [PkL] at r; obtain ⟨_, _, rfl, r, rfl⟩ := r; cases e
    obtain ⟨a, ws, rfl, hq, rl⟩ := PkD.tuple s r
    refine wC_of call_tuple_of ⟨a, ws, rfl, .inr ⟨hK ▸ hq, ?_⟩⟩
    rcases r with r | ⟨_, _, _, e, _⟩
    · exact ok_it s r hQ
    · cases e
  · simp only [PkL] at r; obtain ⟨_, _, rfl, r, rfl⟩ := r; cases e
    obtain ⟨a, ws, rfl, hq, rl⟩ := PkD.list s r
    exact wC_of call_list_of ⟨a, ws, rfl, .inl (.of hq), ok_lst s rl hQ⟩
  · simp only [PkL] at r; obtain ⟨_, _, rfl, r, rfl⟩ := r; cases e
    obtain ⟨a, ws, rfl, hq, rl⟩ := PkD.tuple s r
    exact wC_of call_list_of ⟨a, ws, rfl, .inr (hK ▸ hq), ok_lst s rl hQ⟩
  · simp only [PkL] at r; obtain ⟨_, _, rfl, r, rfl⟩ := r
    obtain ⟨a, ws, rfl, hq, rl⟩ := PkD.list s r
    obtain ⟨bs, e1, rfl⟩ := Option.map_eq_some_iff.mp e
    cases rl.bools e1
    exact wC_of (cr_all hc) ⟨a, bs, rfl, .of hq, ok_bl s hQ⟩
  · simp only [PkL] at r; obtain ⟨_, _, rfl, r, rfl⟩ := r
    obtain ⟨a, ws, rfl, hq, rl⟩ := PkD.list s r
    obtain ⟨bs, e1, rfl⟩ := Option.map_eq_some_iff.mp e
    cases rl.bools e1
    exact wC_of (cr_any hc) ⟨a, bs, rfl, .of hq, ok_bl s hQ⟩
  · cases e
/-- len of a list of the heap, of the script -/
theorem len_ok {x : Vl} {z : PyData} {v : V} (hK : X.K = pg.K) (s : Sim pg.K g h H) (r : PkR pg.K g H x v) (e : lenV h [x] = some z) {Q : VK}
    (hQ : ∀ v H' g', Sim pg.K g' h H' → Pres g H g' H' → VlRel pg.K g' H' (.d z) v → Q v H') : wC X (.builtin "len") σ [v] H Q := by
  unfold lenV at e
  split at e
  · rename_i n e0
    cases e0
    rcases r with ⟨a, ea, rfl⟩ | ⟨_, _, _, e0, _⟩
    · split at e
      · rename_i xs hn
        obtain ⟨b, eb, vs, hb, rl⟩ := s.obj n _ hn
        rw [ea] at eb; cases eb
        cases e
        exact wC_of call_len_seq ⟨a, vs, rfl, .inl (.of hb), by rw [rl.length]; exact ok_int s hQ⟩
      · cases e
    · cases e0
  · rename_i xs e0
    cases e0
    rcases r with ⟨a, rfl, hb⟩ | ⟨_, _, _, e0, _⟩
    · cases e
      exact wC_of call_len_seq ⟨a, xs.map V.int, rfl, .inl (hK ▸ sqL_mono s.sub hb), by rw [List.length_map]; exact ok_int s hQ⟩
    · cases e0
  · cases e
end
end Mi
/-! Mi: the text beside the reader's terms; expressions. -/
namespace Mi
open PySem PySem.Spec PyProof.Rows L2

/-- names of a block: by slot; its scope; the names whose cells are its own -/
structure Cd where
  N : List Str
  sc : Scope
  own : Str → Bool
/-- names of the module -/
structure Tb where
  fn : Nat → Option Str
  gl : Nat → Option Str
  cs : Nat → Option Str := fun _ => none
  sub : Nat → Nat → Bool := fun _ _ => false
  nc : Nat := 0

/-- an own class of errors that take a message -/
structure ClsK (K : PySem.W.Frag) (C : Addr) : Prop where
  kp : PySem.W.keepIn K (.ref C) = true
  ex : PySem.W.excIn K C [.type "ValueError", .type "Exception", .type "BaseException", .type "object"] "ValueError.__new__" = true
  be : PySem.W.subIn K (.ref C) (.type "BaseException") = some true
  ty : PySem.W.typeIn K (.ref C) = some (.type "type")
  xc : ExcC K C
/-- .. and how they stand to one another -/
structure ClsT (pg : Pg) (tb : Tb) : Prop where
  cs : ∀ i x, tb.cs i = some x → ∃ C, pg.cl i = some C ∧ pg.mg x = some (.ref C) ∧ ClsK pg.K C
  sb : ∀ i j C D, pg.cl i = some C → pg.cl j = some D → PySem.W.exmOne pg.K (.ref C) (.ref D) = some (tb.sub i j) ∧ PySem.W.kitOne pg.K (.ref C) (.ref D) = some (tb.sub i j)
  lt : ∀ i C, pg.cl i = some C → i < tb.nc ∧ ExcC pg.K C
/-- how a def is called: its abstract result -/
abbrev Cf := Nat → List Vl → Sh → R Vl

def VlRL (K : PySem.W.Frag) (g : Gh) : List Vl → List V → Prop
  | [], vs => vs = []
  | x :: xs, vs => ∃ v r, vs = v :: r ∧ VlR K g x v ∧ VlRL K g xs r

/-- the promise of a def -/
structure FnG (pg : Pg) (k : Nat) (f : Addr) (fd : FuncData) (ps : List Str) (F : List Vl → Sh → R Vl) : Prop where
  run : ∀ (A : Around) (outer : List Env) (s : Shared) (H : Hp) (args : Args) (us : List Value) (vs : List V) (xs : List Vl) (h : Sh) (g : Gh) (Q : VK) (E : XK), Room k A → A.guards = some [] → Env0 pg.P pg.w pg.K pg.mg pg.base A outer s H → BindsTo s fd args (ps.zip us) →
    Vals vs us → vs.length = ps.length → Sim pg.K g h H → VlRL pg.K g xs vs →
    (match F xs h with
      | .ok x h' => ∀ v H' g', Sim pg.K g' h' H' → Pres g H g' H' → VlR pg.K g' x v → Q v H'
      | .ex e h' => ∀ cls dx H' g', Sim pg.K g' h' H' → Pres g H g' H' → ErR pg e cls dx H' g' → E cls dx H'
      | .no => False) →
    codeAny (model pg.P pg.w) A (.call (.ref f) args) (CR (L2.CX pg.P pg.w) outer pg.P pg.w H s Q E) s

/-- the built-in names that the reader knows -/
def bNames : List Str := ["len", "abs", "min", "max", "sum", "int", "str", "repr", "tuple", "list", "all", "any", "sorted", "isinstance", "range", "enumerate", "zip", "bool", "dict"]

structure GX (X : Cx) (c : Cd) (pg : Pg) (tb : Tb) (G : Nat → Option PyData) (C : Cf) (n : Nat) : Prop where
  hP : X.prog = pg.P
  hw : X.w = pg.w
  hK : X.K = pg.K
  hm : X.mg = pg.mg
  hb : X.base = pg.base
  N : X.N = c.N
  nd : c.N.Nodup
  sc : X.env.scope = c.sc
  kd : c.sc.kind = .function
  fn : X.fn = c.own
  calm : X.calm = true
  po : PassesOwn (model X.prog X.w) X.A X.env X.xe
  room : Room n X.A
  gd : X.A.guards = some []
  gl : ∀ i x, tb.gl i = some x → ∀ d, G i = some d → ∃ u v, pg.mg x = some u ∧ RelV v u ∧ Rp pg.K (fun _ => none) d v
  bt : ∀ x ∈ bNames, pg.mg x = none
  ct : ClsT pg tb
  cl : ∀ i x, tb.fn i = some x → ∃ a fd ps df us0 vs0, pg.mg x = some (.ref a) ∧ PySem.W.keepIn pg.K (.ref a) = true ∧ Binds pg.K fd ps [] ∧ FnG pg n a fd ps (C i) ∧ Binds pg.K fd ps us0 ∧ Vals vs0 us0 ∧ RpL pg.K (fun _ => none) df vs0 ∧
    ∀ xs h, C i xs h ≠ .no → xs.length = ps.length ∨ (xs.length + df.length = ps.length ∧ C i xs h = C i (xs ++ df.map .d) h)

/-! ### the text beside the terms -/
def visB (sc : Scope) (x : Str) : Bool := match sc.names.lookup x with
  | some .local => true
  | some .cell => true
  | some .free => true
  | _ => false
def plainName (x : Str) : Bool := !(x == ("__debug__" : Str)) && !(x == ("__classdict__" : Str))
def nmB (c : Cd) (i : Nat) (x : Str) : Bool := decide (c.N[i]? = some x) && visB c.sc x && plainName x
def glB (c : Cd) (x : Str) : Bool := decide (c.sc.names.lookup x = some .globalImplicit) && plainName x
def cstB : PyData → Const → Bool
  | .none, .none => true
  | .bool a, .bool b => a == b
  | .int a, .int b => a == b
  | .str a, .str b => a == b
  | _, _ => false
def biN : BI → Str
  | .len => "len"
  | .abs => "abs"
  | .min => "min"
  | .max => "max"
  | .sum => "sum"
  | .int => "int"
  | .str => "str"
  | .repr => "repr"
  | .tuple => "tuple"
  | .list => "list"
  | .all => "all"
  | .any => "any"
  | .sorted => "sorted"
def tyN : Ty → Str
  | .int => "int"
  | .str => "str"
  | .bool => "bool"
  | .tuple => "tuple"
  | .list => "list"
  | .dict => "dict"
def meN : ME → Str
  | .join => "join"
  | .split => "split"
  | .words => "split"
  | .partition => "partition"
  | .count => "count"
  | .replace => "replace"
  | .index => "index"
  | .get => "get"
def noSup : Expr → Bool
  | .Call (.Name _ _) _ _ _ => false
  | _ => true
def meA : ME → Nat → Bool
  | .words, 0 => true
  | .join, 1 => true
  | .split, 1 => true
  | .partition, 1 => true
  | .count, 1 => true
  | .index, 1 => true
  | _, _ => false
def noStar : Expr → Bool
  | .Starred .. => false
  | _ => true
def noSlice : Expr → Bool
  | .Slice .. => false
  | _ => true
def noSet : Expr → Bool
  | .Set .. => false
  | _ => true
/-- a test that is tried by its value -/
def byValue : Expr → Bool
  | .UnaryOp .Not _ _ => false
  | .BoolOp .. => false
  | .IfExp .. => false
  | .Compare .. => false
  | _ => true
def isPeek : Te → Bool
  | .peek _ => true
  | _ => false
def stB (c : Cd) (i : Nat) (x : Str) : Bool := decide (c.N[i]? = some x) && (decide (c.sc.names.lookup x = some .local) || (decide (c.sc.names.lookup x = some .cell) && c.own x))
def stBs (c : Cd) : List Nat → List Expr → Bool
  | [], [] => true
  | i :: is, .Name x _ :: es => stB c i x && stBs c is es
  | _, _ => false
def tgB (c : Cd) : Tg → Expr → Bool
  | .n i, .Name x _ => stB c i x
  | .t is, .Tuple es _ _ => stBs c is es
  | _, _ => false
/-- the own names of a comprehension -/
def tgOwn : Tg → Expr → List (Str × Nat)
  | .n i, .Name x _ => [(x, i)]
  | .t is, .Tuple es _ _ => (es.zip is).filterMap fun p => match p.1 with
    | .Name x _ => some (x, p.2)
    | _ => none
  | _, _ => []
def cdC (c : Cd) (scope : Scope) : Cd := ⟨c.N, relS scope c.sc, fun x => scope.names.lookup x == some .cell⟩
def bopB : Operator → Bool
  | .Add | .Sub | .Mult | .FloorDiv | .Mod | .Pow | .BitAnd | .BitOr => true
  | _ => false

def isTt : Tg → Bool
  | .t _ => true
  | _ => false
/-- the text of a source that is walked -/
def itB (c : Cd) (oe : List Expr → Bool) (tg : Tg) (k : Mi.It) (e : Expr) : Bool := match k, e with
  | .range1, .Call (.Name x _) [a] [] _ => decide (x = ("range" : Str)) && glB c x && oe [a]
  | .range2, .Call (.Name x _) [a, b] [] _ => decide (x = ("range" : Str)) && glB c x && oe [a, b]
  | .enum, .Call (.Name x _) [a] [] _ => decide (x = ("enumerate" : Str)) && glB c x && oe [a] && isTt tg
  | .zip, .Call (.Name x _) [a, b] [] _ => decide (x = ("zip" : Str)) && glB c x && oe [a, b] && isTt tg
  | .seq, e => oe [e] && noSet e
  | _, _ => false
mutual
def okE (c : Cd) (tb : Tb) : Te → Expr → Bool
  | .cst v, .Constant k _ _ => cstB v k
  | .var i, .Name x _ => nmB c i x
  | .peek i, .Name x _ => nmB c i x
  | .glob i, .Name x _ => glB c x && decide (tb.gl i = some x)
  | .bin op a b, .BinOp a' op' b' _ => decide (op = op') && okE c tb a a' && okE c tb b b'
  | .cmp op a b, .Compare a' [op'] [b'] _ => decide (op = op') && okE c tb a a' && okE c tb b b' && noSet b'
  | .chain o1 o2 x y z, .Compare x' [p1, p2] [y', z'] _ => decide (o1 = p1) && decide (o2 = p2) && okE c tb x x' && okE c tb y y' && okE c tb z z' && noSet z'
  | .and es, .BoolOp .And es' _ => okEs c tb false es es'
  | .or es, .BoolOp .Or es' _ => okEs c tb false es es'
  | .not e, .UnaryOp .Not e' _ => okE c tb e e'
  | .ite t a b, .IfExp t' a' b' _ => okE c tb t t' && okE c tb a a' && okE c tb b b' && !isPeek a && !isPeek b
  | .neg e, .UnaryOp .USub e' _ => okE c tb e e'
  | .tup es, .Tuple es' _ _ => okEs c tb false es es'
  | .dict0, .Dict [] [] _ => true
  | .ofL l, e => okL c tb l e
  | .newl l, e => okL c tb l e
  | .ix a i, .Subscript a' i' _ => okE c tb a a' && okE c tb i i' && noSlice i'
  | .sliceF a lo, .Subscript a' (.Slice (some lo') none none _) _ => okE c tb a a' && okE c tb lo lo'
  | .sliceT a hi, .Subscript a' (.Slice none (some hi') none _) _ => okE c tb a a' && okE c tb hi hi'
  | .sliceB a lo hi, .Subscript a' (.Slice (some lo') (some hi') none _) _ => okE c tb a a' && okE c tb lo lo' && okE c tb hi hi'
  | .rev a, .Subscript a' (.Slice none none (some (.UnaryOp .USub (.Constant (.int 1) _ _) _)) _) _ => okE c tb a a'
  | .call f es, .Call (.Name x _) es' [] _ => glB c x && decide (tb.fn f = some x) && okEs c tb false es es'
  | .bi b es, .Call (.Name x _) es' [] _ => glB c x && decide (x = biN b) && okEs c tb true es es' && !es'.isEmpty
  | .isi e ts, .Call (.Name x _) [e', .Name t _] [] _ => glB c x && decide (x = ("isinstance" : Str)) && okE c tb e e' && noStar e' && (match ts with
      | [ty] => decide (t = tyN ty) && glB c t
      | _ => false)
  | .me m r es, .Call (.Attribute r' nm ap) es' [] pos => okE c tb r r' && okEs c tb false es es' && decide (nm = meN m) && noSup r' && (ap.endLine == pos.line) && meA m es'.length
  | _, _ => false
def okEs (c : Cd) (tb : Tb) (pk : Bool) : List Te → List Expr → Bool
  | [], [] => true
  | e :: es, e' :: es' => okE c tb e e' && (pk || !isPeek e) && noStar e' && okEs c tb pk es es'
  | _, _ => false
def okL (c : Cd) (tb : Tb) : Tl → Expr → Bool
  | .disp es, .List es' _ => okEs c tb false es es'
  | .cat a b, .BinOp a' .Add b' _ => okE c tb a a' && okE c tb b b'
  | .comp elt tg k es cs, .ListComp elt' [⟨tg', it', ifs', 0⟩] scope _ => blkC c.N c.sc scope (tgOwn tg tg') && tgB (cdC c scope) tg tg' && decide ((tgOwn tg tg').map (·.2) = tg.names) &&
      itB c (okEs c tb false es) tg k it' &&
      okCs (cdC c scope) tb cs ifs' && okE (cdC c scope) tb elt elt' && !isPeek elt
  | _, _ => false
def okCs (c : Cd) (tb : Tb) : List Te → List Expr → Bool
  | [], [] => true
  | [e], [e'] => okE c tb e e'
  | _, _ => false
end
end Mi
/-! Mi: expressions: what the reader finds is what the program gives. -/
namespace Mi
open PySem PySem.Spec PyProof.Rows L2

theorem star_cons {e : Expr} {es : List Expr} {env : Env} (h : noStar e = true) : starEach (e :: es) env = (false, eval e env) :: starEach es env := by
  cases e <;> first | rfl | cases h
def noStars : List Expr → Bool
  | [] => true
  | e :: es => noStar e && noStars es
theorem star_any {pos : Pos} {env : Env} : ∀ {es : List Expr}, noStars es = true → (backTo pos (starEach es env)).any (·.1) = false
  | [], _ => rfl
  | e :: es, h => by
    rw [noStars, Bool.and_eq_true] at h
    rw [star_cons h.1]
    show ((backTo pos ((false, eval e env) :: starEach es env)).any _) = _
    unfold backTo
    rw [List.map_cons, List.any_cons]
    exact star_any h.2
theorem plainIx_of {e : Expr} (h : noSlice e = true) : PlainIx e := by
  cases e <;> first | exact fun _ _ => rfl | cases h
theorem mark_of {op : CmpOp} {e : Expr} (h : noSet e = true) : behindInMarks op e = false := by
  cases e <;> first | rfl | cases h
theorem byVal_of {e : Expr} {env : Env} (h : byValue e = true) (whole : Sem Value) : isTrue e env whole = (do let v ← whole; standAt e.pos; holding [v] (truthy v)) := by
  cases e <;> first | rfl | (rename_i op _ _; cases op <;> first | rfl | cases h) | cases h
theorem folded_of {e : Expr} {env : Env} (h : noSet e = true) (x : Value) : foldedSetIterable e env x = pure x := by
  cases e <;> first | rfl | cases h

section
variable {pg : Pg} {tb : Tb} {G : Nat → Option PyData} {C : Cf} {n : Nat} {X : Cx} {c : Cd} {g : Gh} {H : Hp} {σ : Sg} {h : Sh} {env : En}

theorem GX.vis (gx : GX X c pg tb G C n) {x : Str} (v : visB c.sc x = true) : Vis X.env.scope x := by
  rw [gx.sc]
  unfold visB at v
  unfold Vis
  revert v
  cases e : c.sc.names.lookup x with
  | none => intro v; cases v
  | some k => cases k <;> intro v <;> first | exact .inl rfl | exact .inr (.inl rfl) | exact .inr (.inr rfl) | cases v
theorem GX.gl' (gx : GX X c pg tb G C n) {x : Str} (v : c.sc.names.lookup x = some .globalImplicit) : Gl X x := by
  show X.env.scope.names.lookup x = _
  rw [gx.sc]; exact v
theorem plain_dbg {x : Str} (v : plainName x = true) : (x == ("__debug__" : Str)) = false ∧ (x == ("__classdict__" : Str)) = false := by
  unfold plainName at v
  simpa using v
theorem glB_of {x : Str} (v : glB c x = true) : c.sc.names.lookup x = some .globalImplicit ∧ (x == ("__debug__" : Str)) = false := by
  unfold glB at v
  rw [Bool.and_eq_true] at v
  exact ⟨of_decide_eq_true v.1, (plain_dbg v.2).1⟩

def RelP (K : PySem.W.Frag) (p : Te) : Gh → Hp → Vl → V → Prop := if isPeek p then PkRel K else VlRel K
theorem RelP.pk {K : PySem.W.Frag} {p : Te} {g : Gh} {H : Hp} {x : Vl} {v : V} (r : RelP K p g H x v) : PkR K g H x v := by
  unfold RelP at r
  split at r
  · exact r
  · exact .inl r
theorem RelP.vl {K : PySem.W.Frag} {p : Te} {g : Gh} {H : Hp} {x : Vl} {v : V} (hp : isPeek p = false) (r : RelP K p g H x v) : VlR K g x v := by
  unfold RelP at r
  rw [hp] at r
  exact r
theorem SR.toP {p : Te} (hp : isPeek p = false) {r : R Vl} {w : (V → Hp → Prop) → Prop} (q : SR pg X σ g H (VlRel pg.K) r w) : SR pg X σ g H (RelP pg.K p) r w := by
  unfold RelP
  rw [hp]
  exact q

/-- a test, from the value -/
theorem test_of {e : Expr} {r : R Vl} {Rl : Gh → Hp → Vl → V → Prop} (gx : GX X c pg tb G C n) (hv : byValue e = true) (hpk : ∀ g H x v, Rl g H x v → PkR pg.K g H x v) (q : SR pg X σ g H Rl r (wE X e σ H)) :
    SR pg X σ g H (fun _ _ (a b : Bool) => a = b) (tru r) (wT X e σ H) := by
  unfold tru
  refine SR.bind (w2 := fun v H1 Q => ∃ k, TruV X.K v H1 k ∧ Q k H1) q (fun Q hq => wT_of (pt_truth pe_w (byVal_of hv)) hq) fun x h1 v H1 g1 e1 s1 p1 r1 => ?_
  cases e : truV x with
  | none => exact trivial
  | some b => exact fun Q hQ => ⟨b, tru_V gx.hK s1 (hpk _ _ _ _ r1) e, hQ b H1 g1 s1 Pres.refl rfl⟩

/-! ### the constructs -/
theorem hu_of (gx : GX X c pg tb G C n) : X.A.units + 65 < cLine := by have := gx.room.un; omega
theorem SE.bin {op : Operator} {a b : Te} {ea eb : Expr} {pos : Pos} {Ra Rb : Gh → Hp → Vl → V → Prop} (gx : GX X c pg tb G C n) (ha : ∀ g H x v, Ra g H x v → PkR pg.K g H x v) (hb : ∀ g H x v, Rb g H x v → PkR pg.K g H x v)
    (q1 : SR pg X σ g H Ra (evE C G a env h) (wE X ea σ H)) (q2 : ∀ h1 g1 H1, Sim pg.K g1 h1 H1 → Pres g H g1 H1 → SR pg X σ g1 H1 Rb (evE C G b env h1) (wE X eb σ H1)) :
    SR pg X σ g H (VlRel pg.K) (evE C G (.bin op a b) env h) (wE X (.BinOp ea op eb pos) σ H) := by
  rw [evE]
  refine SR.bind (w2 := fun x H1 Q => wE X eb σ H1 fun y H2 => ∀ σ, wO X (binaryOp op) σ x y H2 Q) q1 (fun Q hq => wE_of (pe_op opR_w pe_w pe_w) hq) fun x h1 v H1 g1 _ s1 p1 r1 => ?_
  refine SR.bind (w2 := fun y H2 Q => ∀ σ, wO X (binaryOp op) σ v y H2 Q) (q2 h1 g1 H1 s1 p1) (fun _ hq => hq) fun y h2 u H2 g2 _ s2 p2 r2 => ?_
  have rx := (ha _ _ _ _ r1).mono p2
  have ry := hb _ _ _ _ r2
  cases x with
  | d x =>
    cases y with
    | d y => exact SR.lift fun z e Q hQ σ => bin_ok gx.hK s2 rx ry e hQ
    | _ => exact trivial
  | _ => exact trivial
/-- a comparison, as a value and as a test -/
theorem SE.cmp {op : CmpOp} {a b : Te} {ea eb : Expr} {pos : Pos} {Ra Rb : Gh → Hp → Vl → V → Prop} (gx : GX X c pg tb G C n) (hs : noSet eb = true) (ha : ∀ g H x v, Ra g H x v → PkR pg.K g H x v) (hb : ∀ g H x v, Rb g H x v → PkR pg.K g H x v)
    (q1 : SR pg X σ g H Ra (evE C G a env h) (wE X ea σ H)) (q2 : ∀ h1 g1 H1, Sim pg.K g1 h1 H1 → Pres g H g1 H1 → SR pg X σ g1 H1 Rb (evE C G b env h1) (wE X eb σ H1)) :
    SR pg X σ g H (VlRel pg.K) (evE C G (.cmp op a b) env h) (wE X (.Compare ea [op] [eb] pos) σ H) ∧
    SR pg X σ g H (fun _ _ (a b : Bool) => a = b) (tru (evE C G (.cmp op a b) env h)) (wT X (.Compare ea [op] [eb] pos) σ H) := by
  rw [evE]
  constructor
  · refine SR.bind (w2 := fun x H1 Q => wE X eb σ H1 fun y H2 => ∀ σ, wO X (compareOp op) σ x y H2 Q) q1 (fun Q hq => wE_of (pe_cmpR opR_w pe_w pe_w (mark_of hs)) hq) fun x h1 v H1 g1 _ s1 p1 r1 => ?_
    refine SR.bind (w2 := fun y H2 Q => ∀ σ, wO X (compareOp op) σ v y H2 Q) (q2 h1 g1 H1 s1 p1) (fun _ hq => hq) fun y h2 u H2 g2 _ s2 p2 r2 => ?_
    have rx := (ha _ _ _ _ r1).mono p2
    have ry := hb _ _ _ _ r2
    cases x with
    | d x =>
      cases y with
      | d y =>
        refine SR.lift fun z e Q hQ σ => ?_
        obtain ⟨b, e1, rfl⟩ := Option.map_eq_some_iff.mp e
        exact cmp_ok gx.hK (hu_of gx) s2 rx ry e1 (ok_bl s2 hQ)
      | _ => exact trivial
    | _ => exact trivial
  · have : ∀ {r : R Vl} {f : Vl → Sh → R Vl}, tru (r.bind f) = r.bind fun x h => tru (f x h) := fun {r f} => by cases r <;> rfl
    rw [this]
    refine SR.bind (w2 := fun x H1 Q => wE X eb σ H1 fun y H2 => ∀ σ, wO X (compareOp op) σ x y H2 fun z H3 => ∃ k, z = .bl k ∧ Q k H3) q1 (fun Q hq => wT_of (pt_cmpR opR_w pe_w pe_w (mark_of hs)) hq) fun x h1 v H1 g1 _ s1 p1 r1 => ?_
    rw [this]
    refine SR.bind (w2 := fun y H2 Q => ∀ σ, wO X (compareOp op) σ v y H2 fun z H3 => ∃ k, z = .bl k ∧ Q k H3) (q2 h1 g1 H1 s1 p1) (fun _ hq => hq) fun y h2 u H2 g2 _ s2 p2 r2 => ?_
    have rx := (ha _ _ _ _ r1).mono p2
    have ry := hb _ _ _ _ r2
    cases x with
    | d x =>
      cases y with
      | d y =>
        dsimp only
        cases e : cmpD op x y with
        | none => exact trivial
        | some b => exact fun Q hQ σ => cmp_ok gx.hK (hu_of gx) s2 rx ry e ⟨b, rfl, hQ b H2 g2 s2 Pres.refl rfl⟩
      | _ => exact trivial
    | _ => exact trivial

theorem tru_bind {α : Type} {r : R α} {f : α → Sh → R Vl} : tru (r.bind f) = r.bind fun x h => tru (f x h) := by cases r <;> rfl
theorem lastMk {op op' : CmpOp} {a b : Expr} (hs : noSet b = true) : lastMarks [op, op'] [a, b] = false := by
  show lastMarks [op'] [b] = false
  exact mark_of hs
theorem SE.chain {o1 o2 : CmpOp} {a b d : Te} {ea eb ed : Expr} {pos : Pos} {Ra Rb Rd : Gh → Hp → Vl → V → Prop} (gx : GX X c pg tb G C n) (hs : noSet ed = true) (ha : ∀ g H x v, Ra g H x v → PkR pg.K g H x v) (hb : ∀ g H x v, Rb g H x v → PkR pg.K g H x v) (hd : ∀ g H x v, Rd g H x v → PkR pg.K g H x v)
    (q1 : SR pg X σ g H Ra (evE C G a env h) (wE X ea σ H)) (q2 : ∀ h1 g1 H1, Sim pg.K g1 h1 H1 → Pres g H g1 H1 → SR pg X σ g1 H1 Rb (evE C G b env h1) (wE X eb σ H1)) (q3 : ∀ h1 g1 H1, Sim pg.K g1 h1 H1 → Pres g H g1 H1 → SR pg X σ g1 H1 Rd (evE C G d env h1) (wE X ed σ H1)) :
    SR pg X σ g H (VlRel pg.K) (evE C G (.chain o1 o2 a b d) env h) (wE X (.Compare ea [o1, o2] [eb, ed] pos) σ H) ∧
    SR pg X σ g H (fun _ _ (a b : Bool) => a = b) (tru (evE C G (.chain o1 o2 a b d) env h)) (wT X (.Compare ea [o1, o2] [eb, ed] pos) σ H) := by
  rw [evE]
  constructor
  · refine SR.bind (w2 := fun x H1 Q => wE X eb σ H1 fun y H2 => ∀ σ', wO X (compareOp o1) σ' x y H2 fun z H3 => ∃ k, z = .bl k ∧ if k = true then wE X ed σ H3 fun w H4 => ∀ σ, wO X (compareOp o2) σ y w H4 Q else Q (.bl false) H3) q1
      (fun Q hq => wE_of (pe_chain opR_w opR_w pe_w pe_w pe_w (lastMk hs)) hq) fun x h1 v H1 g1 _ s1 p1 r1 => ?_
    refine SR.bind (w2 := fun y H2 Q => ∀ σ', wO X (compareOp o1) σ' v y H2 fun z H3 => ∃ k, z = .bl k ∧ if k = true then wE X ed σ H3 fun w H4 => ∀ σ, wO X (compareOp o2) σ y w H4 Q else Q (.bl false) H3) (q2 h1 g1 H1 s1 p1) (fun _ hq => hq) fun y h2 u H2 g2 _ s2 p2 r2 => ?_
    have rx := (ha _ _ _ _ r1).mono p2
    have ry := hb _ _ _ _ r2
    cases x with
    | d x =>
      cases y with
      | d y =>
        dsimp only
        cases e : cmpD o1 x y with
        | none => exact trivial
        | some k =>
          cases k with
          | false => exact fun Q hQ σ' => cmp_ok gx.hK (hu_of gx) s2 rx ry e ⟨false, rfl, ok_bl s2 hQ⟩
          | true =>
            have q := q3 h2 g2 H2 s2 (p1.trans p2)
            have fin : SR pg X σ g2 H2 (VlRel pg.K) ((evE C G d env h2).bind fun z h3 => match z with
                | .d z => lift ((cmpD o2 y z).map .bool) h3
                | _ => .no) (fun Q => wE X ed σ H2 fun w H4 => ∀ σ, wO X (compareOp o2) σ u w H4 Q) := by
              refine SR.bind (w2 := fun w H4 Q => ∀ σ, wO X (compareOp o2) σ u w H4 Q) q (fun _ hq => hq) fun z h3 t H3 g3 _ s3 p3 r3 => ?_
              cases z with
              | d z =>
                refine SR.lift fun z' e' Q hQ σ => ?_
                obtain ⟨b', e1, rfl⟩ := Option.map_eq_some_iff.mp e'
                exact cmp_ok gx.hK (hu_of gx) s3 (ry.mono p3) (hd _ _ _ _ r3) e1 (ok_bl s3 hQ)
              | _ => exact trivial
            exact fin.imp fun Q hq σ' => cmp_ok gx.hK (hu_of gx) s2 rx ry e ⟨true, rfl, hq⟩
      | _ => exact trivial
    | _ => exact trivial
  · rw [tru_bind]
    refine SR.bind (w2 := fun x H1 Q => wE X eb σ H1 fun y H2 => ∀ σ', wO X (compareOp o1) σ' x y H2 fun z H3 => ∃ k, z = .bl k ∧ if k = true then wE X ed σ H3 fun w H4 => ∀ σ, wO X (compareOp o2) σ y w H4 fun z H5 => ∃ k, z = .bl k ∧ Q k H5 else (∃ k, V.bl false = .bl k ∧ Q k H3)) q1
      (fun Q hq => wT_of (pt_chain opR_w opR_w pe_w pe_w pe_w (lastMk hs)) hq) fun x h1 v H1 g1 _ s1 p1 r1 => ?_
    rw [tru_bind]
    refine SR.bind (w2 := fun y H2 Q => ∀ σ', wO X (compareOp o1) σ' v y H2 fun z H3 => ∃ k, z = .bl k ∧ if k = true then wE X ed σ H3 fun w H4 => ∀ σ, wO X (compareOp o2) σ y w H4 fun z H5 => ∃ k, z = .bl k ∧ Q k H5 else (∃ k, V.bl false = .bl k ∧ Q k H3)) (q2 h1 g1 H1 s1 p1) (fun _ hq => hq) fun y h2 u H2 g2 _ s2 p2 r2 => ?_
    have rx := (ha _ _ _ _ r1).mono p2
    have ry := hb _ _ _ _ r2
    cases x with
    | d x =>
      cases y with
      | d y =>
        dsimp only
        cases e : cmpD o1 x y with
        | none => exact trivial
        | some k =>
          cases k with
          | false => exact fun Q hQ σ' => cmp_ok gx.hK (hu_of gx) s2 rx ry e ⟨false, rfl, false, rfl, hQ false H2 g2 s2 Pres.refl rfl⟩
          | true =>
            have q := q3 h2 g2 H2 s2 (p1.trans p2)
            have fin : SR pg X σ g2 H2 (fun _ _ (a b : Bool) => a = b) (tru ((evE C G d env h2).bind fun z h3 => match z with
                | .d z => lift ((cmpD o2 y z).map .bool) h3
                | _ => .no)) (fun Q => wE X ed σ H2 fun w H4 => ∀ σ, wO X (compareOp o2) σ u w H4 fun z H5 => ∃ k, z = .bl k ∧ Q k H5) := by
              rw [tru_bind]
              refine SR.bind (w2 := fun w H4 Q => ∀ σ, wO X (compareOp o2) σ u w H4 fun z H5 => ∃ k, z = .bl k ∧ Q k H5) q (fun _ hq => hq) fun z h3 t H3 g3 _ s3 p3 r3 => ?_
              cases z with
              | d z =>
                dsimp only
                cases e' : cmpD o2 y z with
                | none => exact trivial
                | some b' => exact fun Q hQ σ => cmp_ok gx.hK (hu_of gx) s3 (ry.mono p3) (hd _ _ _ _ r3) e' ⟨b', rfl, hQ b' H3 g3 s3 Pres.refl rfl⟩
              | _ => exact trivial
            exact fin.imp fun Q hq σ' => cmp_ok gx.hK (hu_of gx) s2 rx ry e ⟨true, rfl, hq⟩
      | _ => exact trivial
    | _ => exact trivial
theorem SE.not {e : Te} {ee : Expr} {pos : Pos} {Ra : Gh → Hp → Vl → V → Prop} (gx : GX X c pg tb G C n) (ha : ∀ g H x v, Ra g H x v → PkR pg.K g H x v)
    (q1 : SR pg X σ g H Ra (evE C G e env h) (wE X ee σ H)) (q2 : SR pg X σ g H (fun _ _ (a b : Bool) => a = b) (tru (evE C G e env h)) (wT X ee σ H)) :
    SR pg X σ g H (VlRel pg.K) (evE C G (.not e) env h) (wE X (.UnaryOp .Not ee pos) σ H) ∧
    SR pg X σ g H (fun _ _ (a b : Bool) => a = b) (tru (evE C G (.not e) env h)) (wT X (.UnaryOp .Not ee pos) σ H) := by
  constructor
  · rw [evE]
    refine SR.bind (w2 := fun x H1 (Q : VK) => ∃ k, TruV X.K x H1 k ∧ Q (V.bl (!k)) H1) q1 (fun Q hq => wE_of (pe_notT pe_w) hq) fun x h1 v H1 g1 _ s1 p1 r1 => ?_
    cases t : truV x with
    | none => exact trivial
    | some b => exact fun Q hQ => ⟨b, tru_V gx.hK s1 (ha _ _ _ _ r1) t, ok_bl s1 hQ⟩
  · have e1 : tru (evE C G (.not e) env h) = (tru (evE C G e env h)).bind fun b h1 => .ok (!b) h1 := by
      rw [evE, tru_bind]
      unfold tru
      cases evE C G e env h with
      | no => rfl
      | ex _ _ => rfl
      | ok x h1 =>
        show (match truV x with | some b => R.ok (Vl.d (.bool (!b))) h1 | none => .no).bind _ = _
        show _ = R.bind (match truV x with | some b => R.ok b h1 | none => .no) _
        cases truV x <;> rfl
    rw [e1]
    refine SR.bind (w2 := fun b H1 Q => Q (!b) H1) q2 (fun Q hq => wT_of (pt_not pt_w) hq) fun b h1 v H1 g1 _ s1 p1 r1 => ?_
    subst r1
    exact fun Q hQ => hQ _ H1 g1 s1 Pres.refl rfl
theorem SE.ite {t a b : Te} {et ea eb : Expr} {pos : Pos}
    (q1 : SR pg X σ g H (fun _ _ (a b : Bool) => a = b) (tru (evE C G t env h)) (wT X et σ H))
    (q2 : ∀ h1 g1 H1, Sim pg.K g1 h1 H1 → Pres g H g1 H1 → SR pg X σ g1 H1 (VlRel pg.K) (evE C G a env h1) (wE X ea σ H1) ∧ SR pg X σ g1 H1 (fun _ _ (a b : Bool) => a = b) (tru (evE C G a env h1)) (wT X ea σ H1))
    (q3 : ∀ h1 g1 H1, Sim pg.K g1 h1 H1 → Pres g H g1 H1 → SR pg X σ g1 H1 (VlRel pg.K) (evE C G b env h1) (wE X eb σ H1) ∧ SR pg X σ g1 H1 (fun _ _ (a b : Bool) => a = b) (tru (evE C G b env h1)) (wT X eb σ H1)) :
    SR pg X σ g H (VlRel pg.K) (evE C G (.ite t a b) env h) (wE X (.IfExp et ea eb pos) σ H) ∧
    SR pg X σ g H (fun _ _ (a b : Bool) => a = b) (tru (evE C G (.ite t a b) env h)) (wT X (.IfExp et ea eb pos) σ H) := by
  have e1 : evE C G (.ite t a b) env h = (tru (evE C G t env h)).bind fun k h1 => if k = true then evE C G a env h1 else evE C G b env h1 := by
    rw [evE]
    unfold tru
    cases evE C G t env h with
    | no => rfl
    | ex _ _ => rfl
    | ok x h1 =>
      show (match truV x with | some true => evE C G a env h1 | some false => evE C G b env h1 | none => .no) = R.bind (match truV x with | some b => R.ok b h1 | none => .no) _
      cases truV x with
      | none => rfl
      | some k => cases k <;> rfl
  rw [e1]
  constructor
  · refine SR.bind (w2 := fun k H1 Q => if k = true then wE X ea σ H1 Q else wE X eb σ H1 Q) q1 (fun Q hq => wE_of (pe_ifExp pt_w pe_w pe_w) hq) fun k h1 v H1 g1 _ s1 p1 r1 => ?_
    subst r1
    cases k with
    | true => exact (q2 h1 g1 H1 s1 p1).1
    | false => exact (q3 h1 g1 H1 s1 p1).1
  · rw [tru_bind]
    refine SR.bind (w2 := fun k H1 Q => if k = true then wT X ea σ H1 Q else wT X eb σ H1 Q) q1 (fun Q hq => ?_) fun k h1 v H1 g1 _ s1 p1 r1 => ?_
    · intro pins s I
      refine isTrue_IfExp (thn (hq pins s I) fun k s1 ⟨H1, I1, q⟩ => ?_)
      cases k with
      | true => exact q pins s1 I1
      | false => exact q pins s1 I1
    · subst r1
      cases k with
      | true => exact (q2 h1 g1 H1 s1 p1).2
      | false => exact (q3 h1 g1 H1 s1 p1).2
theorem SE.neg {e : Te} {ee : Expr} {pos : Pos} {Ra : Gh → Hp → Vl → V → Prop} (ha : ∀ g H x v, Ra g H x v → PkR pg.K g H x v)
    (q1 : SR pg X σ g H Ra (evE C G e env h) (wE X ee σ H)) : SR pg X σ g H (VlRel pg.K) (evE C G (.neg e) env h) (wE X (.UnaryOp .USub ee pos) σ H) := by
  rw [evE]
  refine SR.bind (w2 := fun x H1 (Q : VK) => ∃ i, x = V.int i ∧ Q (V.int (-i)) H1) q1 (fun Q hq => wE_of (pe_un un_neg pe_w) hq) fun x h1 v H1 g1 _ s1 p1 r1 => ?_
  split
  · exact fun Q hQ => ⟨_, PkD.int (ha _ _ _ _ r1), ok_int s1 hQ⟩
  · exact trivial
theorem SE.ix {a i : Te} {ea ei : Expr} {pos : Pos} {Ra Rb : Gh → Hp → Vl → V → Prop} (gx : GX X c pg tb G C n) (hs : noSlice ei = true) (ha : ∀ g H x v, Ra g H x v → PkR pg.K g H x v) (hb : ∀ g H x v, Rb g H x v → PkR pg.K g H x v)
    (q1 : SR pg X σ g H Ra (evE C G a env h) (wE X ea σ H)) (q2 : ∀ h1 g1 H1, Sim pg.K g1 h1 H1 → Pres g H g1 H1 → SR pg X σ g1 H1 Rb (evE C G i env h1) (wE X ei σ H1)) :
    SR pg X σ g H (VlRel pg.K) (evE C G (.ix a i) env h) (wE X (.Subscript ea ei pos) σ H) := by
  rw [evE]
  refine SR.bind (w2 := fun x H1 Q => wE X ei σ H1 fun y H2 => ∀ σ, wX X σ x y H2 Q) q1 (fun Q hq => wE_of (pe_ix ixR_w pe_w pe_w (plainIx_of hs)) hq) fun x h1 v H1 g1 _ s1 p1 r1 => ?_
  refine SR.bind (w2 := fun y H2 Q => ∀ σ, wX X σ v y H2 Q) (q2 h1 g1 H1 s1 p1) (fun _ hq => hq) fun y h2 u H2 g2 _ s2 p2 r2 => ?_
  exact SR.lift fun z e Q hQ σ => ix_ok gx.hK s2 ((ha _ _ _ _ r1).mono p2) (hb _ _ _ _ r2) e hQ
theorem SE.sliceF {a i : Te} {ea ei : Expr} {pos p2 : Pos} {Ra Rb : Gh → Hp → Vl → V → Prop} (gx : GX X c pg tb G C n) (ha : ∀ g H x v, Ra g H x v → PkR pg.K g H x v) (hb : ∀ g H x v, Rb g H x v → PkR pg.K g H x v)
    (q1 : SR pg X σ g H Ra (evE C G a env h) (wE X ea σ H)) (q2 : ∀ h1 g1 H1, Sim pg.K g1 h1 H1 → Pres g H g1 H1 → SR pg X σ g1 H1 Rb (evE C G i env h1) (wE X ei σ H1)) :
    SR pg X σ g H (VlRel pg.K) (evE C G (.sliceF a i) env h) (wE X (.Subscript ea (.Slice (some ei) none none p2) pos) σ H) := by
  rw [evE]
  refine SR.bind (w2 := fun x H1 Q => wE X ei σ H1 fun y H2 => ∃ i, y = .int i ∧ ∀ σ, wSl X σ x (some i) none H2 Q) q1 (fun Q hq => wE_of (pe_slice slR_w pe_w (po_some pe_w) po_none) hq) fun x h1 v H1 g1 _ s1 p1 r1 => ?_
  refine SR.bind (w2 := fun y H2 Q => ∃ i, y = .int i ∧ ∀ σ, wSl X σ v (some i) none H2 Q) (q2 h1 g1 H1 s1 p1) (fun _ hq => hq) fun y h2 u H2 g2 _ s2 p2 r2 => ?_
  have rx := (ha _ _ _ _ r1).mono p2
  split
  · exact SR.lift fun z e Q hQ => ⟨_, PkD.int (hb _ _ _ _ r2), fun σ => slice_ok gx.hK s2 rx e hQ⟩
  · exact trivial
theorem SE.sliceT {a i : Te} {ea ei : Expr} {pos p2 : Pos} {Ra Rb : Gh → Hp → Vl → V → Prop} (gx : GX X c pg tb G C n) (ha : ∀ g H x v, Ra g H x v → PkR pg.K g H x v) (hb : ∀ g H x v, Rb g H x v → PkR pg.K g H x v)
    (q1 : SR pg X σ g H Ra (evE C G a env h) (wE X ea σ H)) (q2 : ∀ h1 g1 H1, Sim pg.K g1 h1 H1 → Pres g H g1 H1 → SR pg X σ g1 H1 Rb (evE C G i env h1) (wE X ei σ H1)) :
    SR pg X σ g H (VlRel pg.K) (evE C G (.sliceT a i) env h) (wE X (.Subscript ea (.Slice none (some ei) none p2) pos) σ H) := by
  rw [evE]
  refine SR.bind (w2 := fun x H1 Q => wE X ei σ H1 fun y H2 => ∃ i, y = .int i ∧ ∀ σ, wSl X σ x none (some i) H2 Q) q1 (fun Q hq => wE_of (pe_slice slR_w pe_w po_none (po_some pe_w)) hq) fun x h1 v H1 g1 _ s1 p1 r1 => ?_
  refine SR.bind (w2 := fun y H2 Q => ∃ i, y = .int i ∧ ∀ σ, wSl X σ v none (some i) H2 Q) (q2 h1 g1 H1 s1 p1) (fun _ hq => hq) fun y h2 u H2 g2 _ s2 p2 r2 => ?_
  have rx := (ha _ _ _ _ r1).mono p2
  split
  · exact SR.lift fun z e Q hQ => ⟨_, PkD.int (hb _ _ _ _ r2), fun σ => slice_ok gx.hK s2 rx e hQ⟩
  · exact trivial
theorem SE.sliceB {a i j : Te} {ea ei ej : Expr} {pos p2 : Pos} {Ra Rb Rc : Gh → Hp → Vl → V → Prop} (gx : GX X c pg tb G C n) (ha : ∀ g H x v, Ra g H x v → PkR pg.K g H x v) (hb : ∀ g H x v, Rb g H x v → PkR pg.K g H x v) (hc : ∀ g H x v, Rc g H x v → PkR pg.K g H x v)
    (q1 : SR pg X σ g H Ra (evE C G a env h) (wE X ea σ H)) (q2 : ∀ h1 g1 H1, Sim pg.K g1 h1 H1 → Pres g H g1 H1 → SR pg X σ g1 H1 Rb (evE C G i env h1) (wE X ei σ H1)) (q3 : ∀ h1 g1 H1, Sim pg.K g1 h1 H1 → Pres g H g1 H1 → SR pg X σ g1 H1 Rc (evE C G j env h1) (wE X ej σ H1)) :
    SR pg X σ g H (VlRel pg.K) (evE C G (.sliceB a i j) env h) (wE X (.Subscript ea (.Slice (some ei) (some ej) none p2) pos) σ H) := by
  rw [evE]
  refine SR.bind (w2 := fun x H1 Q => wE X ei σ H1 fun y H2 => ∃ i, y = .int i ∧ wE X ej σ H2 fun z H3 => ∃ j, z = .int j ∧ ∀ σ, wSl X σ x (some i) (some j) H3 Q) q1 (fun Q hq => wE_of (pe_slice slR_w pe_w (po_some pe_w) (po_some pe_w)) hq) fun x h1 v H1 g1 _ s1 p1 r1 => ?_
  refine SR.bind (w2 := fun y H2 Q => ∃ i, y = .int i ∧ wE X ej σ H2 fun z H3 => ∃ j, z = .int j ∧ ∀ σ, wSl X σ v (some i) (some j) H3 Q) (q2 h1 g1 H1 s1 p1) (fun _ hq => hq) fun y h2 u H2 g2 _ s2 p2 r2 => ?_
  have q := q3 h2 g2 H2 s2 (p1.trans p2)
  split
  · rename_i k _
    refine SR.imp (w := fun Q => wE X ej σ H2 fun z H3 => ∃ j, z = .int j ∧ ∀ σ, wSl X σ v (some k) (some j) H3 Q) ?_ fun Q hq => ⟨k, PkD.int (hb _ _ _ _ r2), hq⟩
    refine SR.bind (w2 := fun z H3 Q => ∃ j, z = .int j ∧ ∀ σ, wSl X σ v (some k) (some j) H3 Q) q (fun _ hq => hq) fun z h3 t H3 g3 _ s3 p3 r3 => ?_
    have rx := ((ha _ _ _ _ r1).mono p2).mono p3
    split
    · exact SR.lift fun z e Q hQ => ⟨_, PkD.int (hc _ _ _ _ r3), fun σ => slice_ok gx.hK s3 rx e hQ⟩
    · exact trivial
  · exact trivial

/-! ### names, displays -/
theorem SE.cst {v : PyData} {k : Const} {j : Nat} {pos : Pos} (s : Sim pg.K g h H) (ok : cstB v k = true) : SR pg X σ g H (VlRel pg.K) (evE C G (.cst v) env h) (wE X (.Constant k j pos) σ H) := by
  rw [evE]
  intro Q hQ
  unfold cstB at ok
  split at ok
  · exact wE_of pe_non (hQ _ _ _ s Pres.refl (by simp only [VlRel, VlR, Rp]))
  · cases eq_of_beq ok; exact wE_of pe_bl (ok_bl s hQ)
  · cases eq_of_beq ok; exact wE_of pe_int (ok_int s hQ)
  · cases eq_of_beq ok; exact wE_of pe_str (ok_str s hQ)
  · cases ok
theorem nmB_of {i : Nat} {x : Str} (ok : nmB c i x = true) : c.N[i]? = some x ∧ visB c.sc x = true ∧ (x == ("__debug__" : Str)) = false ∧ (x == ("__classdict__" : Str)) = false := by
  unfold nmB at ok
  rw [Bool.and_eq_true, Bool.and_eq_true] at ok
  exact ⟨of_decide_eq_true ok.1.1, ok.1.2, plain_dbg ok.2⟩
theorem SE.var {i : Nat} {x : Str} {pos : Pos} (gx : GX X c pg tb G C n) (s : Sim pg.K g h H) (r : EnR pg.K g H env σ) (ok : nmB c i x = true) : SR pg X σ g H (VlRel pg.K) (evE C G (.var i) env h) (wE X (.Name x pos) σ H) := by
  rw [evE]
  obtain ⟨o1, o2, o3, o4⟩ := nmB_of ok
  split
  · rename_i y e
    obtain ⟨o, e1, v, rfl, q⟩ := r.at_ i _ e
    exact fun Q hQ => wE_of (pe_var (by rw [gx.N]; exact o1) (gx.vis o2) o3 o4) ⟨v, e1, hQ v H g s Pres.refl q⟩
  · exact trivial
theorem SE.peek {i : Nat} {x : Str} {pos : Pos} (gx : GX X c pg tb G C n) (s : Sim pg.K g h H) (r : EnR pg.K g H env σ) (ok : nmB c i x = true) : SR pg X σ g H (PkRel pg.K) (evE C G (.peek i) env h) (wE X (.Name x pos) σ H) := by
  rw [evE]
  obtain ⟨o1, o2, o3, o4⟩ := nmB_of ok
  split
  · rename_i y e
    obtain ⟨o, e1, v, rfl, q⟩ := r.at_ i _ e
    exact fun Q hQ => wE_of (pe_var (by rw [gx.N]; exact o1) (gx.vis o2) o3 o4) ⟨v, e1, hQ v H g s Pres.refl (.inl q)⟩
  · rename_i xs e
    obtain ⟨o, e1, a, vs, rfl, hH, z, ni, q⟩ := r.at_ i _ e
    exact fun Q hQ => wE_of (pe_var (by rw [gx.N]; exact o1) (gx.vis o2) o3 o4) ⟨_, e1, hQ _ H g s Pres.refl (.inr ⟨xs, a, vs, rfl, rfl, hH, ni, q⟩)⟩
  · exact trivial
theorem SE.glob {i : Nat} {x : Str} {pos : Pos} (gx : GX X c pg tb G C n) (s : Sim pg.K g h H) (ok : (glB c x && decide (tb.gl i = some x)) = true) : SR pg X σ g H (VlRel pg.K) (evE C G (.glob i) env h) (wE X (.Name x pos) σ H) := by
  rw [evE]
  rw [Bool.and_eq_true] at ok
  obtain ⟨o1, o2⟩ := glB_of ok.1
  refine SR.lift fun z e Q hQ => ?_
  obtain ⟨u, v, e1, ru, rp⟩ := gx.gl i x (of_decide_eq_true ok.2) z e
  exact wE_of (pe_glob (gx.gl' o1) (by rw [gx.hm]; exact e1) ru o2) (hQ v H g s Pres.refl (Rp.mono (fun _ _ (y : (none : Option HO) = some _) => by cases y) z v rp))

/-- a list of values, each by a relation -/
def AllR (Rl : Vl → V → Prop) : List Vl → List V → Prop
  | [], vs => vs = []
  | x :: xs, vs => ∃ v r, vs = v :: r ∧ Rl x v ∧ AllR Rl xs r
theorem AllR.imp {R1 R2 : Vl → V → Prop} (m : ∀ x v, R1 x v → R2 x v) : ∀ {xs : List Vl} {vs : List V}, AllR R1 xs vs → AllR R2 xs vs
  | [], _, r => r
  | x :: xs, _, ⟨v, t, e, r1, r2⟩ => ⟨v, t, e, m _ _ r1, AllR.imp m r2⟩
theorem AllR.vl {K : PySem.W.Frag} : ∀ {xs : List Vl} {vs : List V}, AllR (VlR K g) xs vs → VlRL K g xs vs
  | [], _, r => r
  | x :: xs, _, ⟨v, t, e, r1, r2⟩ => ⟨v, t, e, r1, AllR.vl r2⟩
theorem AllR.data {K : PySem.W.Frag} : ∀ {xs : List Vl} {vs : List V} {ds : List PyData}, AllR (VlR K g) xs vs → datL xs = some ds → RpL K g.Z ds vs
  | [], _, _, r, e => by
    simp only [datL, Option.some.injEq] at e
    subst e
    have r : _ = [] := r
    subst r
    exact RpL.nil
  | .d x :: xs, _, _, ⟨v, t, e1, r1, r2⟩, e => by
    simp only [datL, Option.map_eq_some_iff] at e
    obtain ⟨ys, e2, rfl⟩ := e
    subst e1
    exact RpL.cons r1 (AllR.data r2 e2)
  | .ref _ :: _, _, _, _, e => by cases e
  | .fn _ :: _, _, _, _, e => by cases e
  | .scr _ :: _, _, _, _, e => by cases e
theorem AllR.pk {K : PySem.W.Frag} : ∀ {xs : List Vl} {vs : List V} {ds : List PyData}, AllR (PkR K g H) xs vs → datL xs = some ds → PkL K g H ds vs
  | [], _, _, r, e => by
    simp only [datL, Option.some.injEq] at e
    subst e
    exact r
  | .d x :: xs, _, _, ⟨v, t, e1, r1, r2⟩, e => by
    simp only [datL, Option.map_eq_some_iff] at e
    obtain ⟨ys, e2, rfl⟩ := e
    exact ⟨v, t, e1, r1, AllR.pk r2 e2⟩
  | .ref _ :: _, _, _, _, e => by cases e
  | .fn _ :: _, _, _, _, e => by cases e
  | .scr _ :: _, _, _, _, e => by cases e
/-- arguments, from the left; pk: the frame's own lists may stand among them -/
def ArR (K : PySem.W.Frag) (pk : Bool) : Gh → Hp → List Vl → List V → Prop := fun g H xs vs => AllR (if pk = true then PkR K g H else VlR K g) xs vs
theorem ArR.mono {K : PySem.W.Frag} {pk : Bool} {g' : Gh} {H' : Hp} {xs : List Vl} {vs : List V} (p : Pres g H g' H') (r : ArR K pk g H xs vs) : ArR K pk g' H' xs vs := by
  cases pk with
  | true => exact AllR.imp (fun _ _ q => PkR.mono p q) r
  | false => exact AllR.imp (fun _ _ q => VlR.mono p q) r
theorem SA.nil {pk : Bool} (s : Sim pg.K g h H) : SR pg X σ g H (ArR pg.K pk) (evEs C G [] env h) (wA X [] σ H) := by
  rw [evEs]
  exact fun Q hQ => wA_of pa_nil (hQ [] H g s Pres.refl rfl)
theorem SA.cons {pk : Bool} {e : Te} {es : List Te} {ee : Expr} {ees : List Expr} (ns : noStar ee = true) (q1 : SR pg X σ g H (RelP pg.K e) (evE C G e env h) (wE X ee σ H)) (hp : (pk || !isPeek e) = true)
    (q2 : ∀ h1 g1 H1, Sim pg.K g1 h1 H1 → Pres g H g1 H1 → SR pg X σ g1 H1 (ArR pg.K pk) (evEs C G es env h1) (wA X ees σ H1)) : SR pg X σ g H (ArR pg.K pk) (evEs C G (e :: es) env h) (wA X (ee :: ees) σ H) := by
  rw [evEs]
  refine SR.bind (w2 := fun x H1 Q => wA X ees σ H1 fun xs H2 => Q (x :: xs) H2) q1 (fun Q hq => wA_of (pa_cons pe_w pa_w (star_cons ns)) hq) fun x h1 v H1 g1 _ s1 p1 r1 => ?_
  refine SR.bind (w2 := fun xs H2 Q => Q (v :: xs) H2) (q2 h1 g1 H1 s1 p1) (fun _ hq => hq) fun xs h2 vs H2 g2 _ s2 p2 r2 => ?_
  refine fun Q hQ => hQ _ H2 g2 s2 Pres.refl ⟨v, vs, rfl, ?_, r2⟩
  cases pk with
  | true => exact r1.pk.mono p2
  | false => exact (r1.vl (by simpa using hp)).mono p2
theorem SE.tup {es : List Te} {ees : List Expr} {k : Nat} {pos : Pos} (q1 : SR pg X σ g H (ArR pg.K false) (evEs C G es env h) (wA X ees σ H)) : SR pg X σ g H (VlRel pg.K) (evE C G (.tup es) env h) (wE X (.Tuple ees k pos) σ H) := by
  rw [evE]
  refine SR.bind (w2 := fun (xs : List V) H1 (Q : VK) => xs.length ≤ sizeLine ∧ ∀ p, H1 p = none → Q (V.ref p) (upd H1 p (.tup xs))) q1 (fun Q hq => wE_of (pe_tup pa_w) hq) fun xs h1 vs H1 g1 _ s1 p1 r1 => ?_
  cases e : datL xs with
  | none => exact trivial
  | some ds =>
    have rl := AllR.data r1 e
    dsimp only
    split
    · rename_i c
      exact fun Q hQ => ⟨by rw [rl.length, ← szL]; exact c, ok_tup s1 rl hQ⟩
    · exact trivial
theorem SE.dict0 {pos : Pos} (s : Sim pg.K g h H) : SR pg X σ g H (VlRel pg.K) (evE C G .dict0 env h) (wE X (.Dict [] [] pos) σ H) := by
  rw [evE]
  refine fun Q hQ => wE_of pe_dnewK fun p np => ?_
  obtain ⟨s', p'⟩ := s.frozen np (.dK [])
  refine hQ _ _ _ s' p' ?_
  simp only [VlRel, VlR, Rp]
  exact ⟨p, [], rfl, by show upd g.Z p _ p = _; rw [upd_same], by simp only [RpM]⟩

/-! ### lists made -/
/-- a list that nobody else holds -/
def OwR (K : PySem.W.Frag) : Gh → Hp → List PyData → V → Prop := fun g H xs v => ∃ a vs, v = .ref a ∧ H a = some (.lst vs) ∧ g.Z a = none ∧ a ∉ g.ι ∧ RpL K g.Z xs vs
/-- .. made behind the state g0 H0 -/
def NwR (K : PySem.W.Frag) (H0 : Hp) : Gh → Hp → List PyData → V → Prop := fun g H xs v => ∃ a vs, v = .ref a ∧ H a = some (.lst vs) ∧ g.Z a = none ∧ a ∉ g.ι ∧ RpL K g.Z xs vs ∧ H0 a = none
theorem Sim.loose (s : Sim pg.K g h H) {p : Addr} (np : H p = none) (o : HO) : Sim pg.K g h (upd H p o) ∧ Pres g H g (upd H p o) ∧ g.Z p = none ∧ p ∉ g.ι := by
  have zp : g.Z p = none := by
    cases e : g.Z p with
    | none => rfl
    | some u =>
      have := s.sub _ _ e
      rw [np] at this; cases this
  have nι : p ∉ g.ι := fun m => by
    obtain ⟨vs, e⟩ := s.tracked m
    rw [np] at e; cases e
  refine ⟨⟨fun a u e => ?_, s.nd, s.len, s.out, fun k u e => ?_⟩, ⟨fun _ _ e => e, ⟨[], (List.append_nil _).symm⟩, fun a u e n => ⟨?_, n, id⟩⟩, zp, nι⟩
  · rw [upd_ne (fun z => by rw [z, zp] at e; cases e)]
    exact s.sub _ _ e
  · obtain ⟨a, e1, r⟩ := s.obj k u e
    refine ⟨a, e1, ?_⟩
    cases u with
    | lst xs =>
      obtain ⟨vs, q, r⟩ := r
      exact ⟨vs, by rw [upd_ne (fun z => by rw [z, np] at q; cases q)]; exact q, r⟩
  · rw [upd_ne (fun z => by rw [z, np] at e; cases e)]
    exact e
/-- an own list becomes one that never changes -/
theorem Sim.freeze (s : Sim pg.K g h H) {a : Addr} {vs : List V} (e : H a = some (.lst vs)) (z : g.Z a = none) (ni : a ∉ g.ι) : Sim pg.K ⟨upd g.Z a (.lst vs), g.ι⟩ h H ∧ (∀ b o, g.Z b = some o → upd g.Z a (.lst vs) b = some o) := by
  have zm : ∀ b o, g.Z b = some o → upd g.Z a (.lst vs) b = some o := fun b o q => by
    rw [upd_ne (fun y => by rw [y, z] at q; cases q)]
    exact q
  refine ⟨⟨fun b o q => ?_, s.nd, s.len, fun b m => ?_, fun k u q => ?_⟩, zm⟩
  · have q' : upd g.Z a (.lst vs) b = some o := q
    by_cases hb : b = a
    · subst hb
      rw [upd_same] at q'
      cases q'
      exact e
    · rw [upd_ne hb] at q'
      exact s.sub _ _ q'
  · show upd g.Z a (.lst vs) b = none
    have hb : b ≠ a := fun y => ni (y ▸ m)
    rw [upd_ne hb]
    exact s.out b m
  · obtain ⟨b, e1, r⟩ := s.obj k u q
    refine ⟨b, e1, ?_⟩
    cases u with
    | lst xs =>
      obtain ⟨ws, q2, r⟩ := r
      exact ⟨ws, q2, RpL.mono zm xs ws r⟩
theorem Pres.freezeNew {g0 : Gh} {H0 : Hp} {a : Addr} {vs : List V} (p : Pres g0 H0 g H) (z : g.Z a = none) (n0 : H0 a = none) : Pres g0 H0 ⟨upd g.Z a (.lst vs), g.ι⟩ H := by
  refine ⟨fun b o q => ?_, p.i, fun b o q nb => ?_⟩
  · have q' := p.z b o q
    show upd g.Z a (.lst vs) b = some o
    rw [upd_ne (fun y => by rw [y, z] at q'; cases q')]
    exact q'
  · obtain ⟨k1, k2, k3⟩ := p.k b o q nb
    refine ⟨k1, k2, fun y => ?_⟩
    show upd g.Z a (.lst vs) b = none
    rw [upd_ne (fun w => by rw [w, n0] at q; cases q)]
    exact k3 y
theorem SE.ofL {l : Tl} {e : Expr} (q1 : SR pg X σ g H (NwR pg.K H) (evL C G l env h) (wE X e σ H)) : SR pg X σ g H (VlRel pg.K) (evE C G (.ofL l) env h) (wE X e σ H) := by
  rw [evE]
  cases q : evL C G l env h with
  | no => exact trivial
  | ex y h' =>
    rw [q] at q1
    exact q1
  | ok xs h' =>
    rw [q] at q1
    refine fun Q hQ => q1 Q fun v H' g' s' p' r' => ?_
    obtain ⟨a, vs, rfl, hH, z, ni, rl, n0⟩ := r'
    obtain ⟨s2, zm⟩ := s'.freeze hH z ni
    refine hQ _ H' ⟨upd g'.Z a (.lst vs), g'.ι⟩ s2 (p'.freezeNew z n0) ?_
    simp only [VlRel, VlR, Rp]
    exact ⟨a, vs, rfl, by show upd g'.Z a _ a = _; rw [upd_same], RpL.mono zm xs vs rl⟩
theorem SE.newl {l : Tl} {e : Expr} (q1 : SR pg X σ g H (NwR pg.K H) (evL C G l env h) (wE X e σ H)) : SR pg X σ g H (VlRel pg.K) (evE C G (.newl l) env h) (wE X e σ H) := by
  rw [evE]
  cases q : evL C G l env h with
  | no => exact trivial
  | ex y h' =>
    rw [q] at q1
    exact q1
  | ok xs h' =>
    rw [q] at q1
    refine fun Q hQ => q1 Q fun v H' g' s' p' r' => ?_
    obtain ⟨a, vs, rfl, hH, z, ni, rl, n0⟩ := r'
    have s2 : Sim pg.K ⟨g'.Z, g'.ι ++ [a]⟩ (h' ++ [.lst xs]) H' := by
      refine ⟨s'.sub, ?_, ?_, fun b m => ?_, fun k u q => ?_⟩
      · rw [List.nodup_append]
        refine ⟨s'.nd, by simp, fun b m d md => ?_⟩
        have : d = a := by simpa using md
        subst this
        exact fun y => ni (y ▸ m)
      · rw [List.length_append, List.length_append, s'.len]
        rfl
      · rcases List.mem_append.mp m with m | m
        · exact s'.out b m
        · have : b = a := by simpa using m
          subst this
          exact z
      · by_cases hk : k < h'.length
        · rw [List.getElem?_append_left hk] at q
          obtain ⟨b, e1, r⟩ := s'.obj k u q
          refine ⟨b, ?_, r⟩
          show (g'.ι ++ [a])[k]? = some b
          rw [List.getElem?_append_left (by rw [s'.len]; exact hk)]
          exact e1
        · rw [List.getElem?_append_right (Nat.le_of_not_lt hk)] at q
          have h0 : k - h'.length = 0 := by
            by_cases y : k - h'.length = 0
            · exact y
            · rw [List.getElem?_eq_none (by simp; omega)] at q
              cases q
          rw [h0] at q
          simp at q
          subst q
          refine ⟨a, ?_, vs, hH, rl⟩
          show (g'.ι ++ [a])[k]? = some a
          rw [List.getElem?_append_right (by rw [s'.len]; omega), s'.len, h0]
          rfl
    refine hQ _ H' ⟨g'.Z, g'.ι ++ [a]⟩ s2 ⟨p'.z, ?_, fun b o q nb => ?_⟩ ⟨a, ?_, rfl⟩
    · obtain ⟨t, e⟩ := p'.i
      exact ⟨t ++ [a], by rw [← List.append_assoc, ← e]⟩
    · obtain ⟨k1, k2, k3⟩ := p'.k b o q nb
      refine ⟨k1, fun m => ?_, k3⟩
      rcases List.mem_append.mp m with m | m
      · exact k2 m
      · have : b = a := by simpa using m
        subst this
        rw [n0] at q; cases q
    · show (g'.ι ++ [a])[h'.length]? = some a
      rw [List.getElem?_append_right (by rw [s'.len]; exact Nat.le_refl _), s'.len, Nat.sub_self]
      rfl
theorem SL.disp {es : List Te} {ees : List Expr} {pos : Pos} (q1 : SR pg X σ g H (ArR pg.K false) (evEs C G es env h) (wA X ees σ H)) : SR pg X σ g H (NwR pg.K H) (evL C G (.disp es) env h) (wE X (.List ees pos) σ H) := by
  rw [evL]
  cases q : evEs C G es env h with
  | no => exact trivial
  | ex y h' =>
    rw [q] at q1
    exact fun W tk hW Q => wE_of (pe_lst pa_w) (q1 W tk hW _)
  | ok xs h' =>
    rw [q] at q1
    show SR pg X σ g H (NwR pg.K H) (match datL xs with | some ds => if ds.length ≤ SZ then .ok ds h' else .no | none => .no) _
    cases e : datL xs with
    | none => exact trivial
    | some ds =>
      dsimp only
      split
      · rename_i c
        refine fun Q hQ => wE_of (pe_lst pa_w) (q1 _ fun vs H' g' s' p' r' => ?_)
        have rl := AllR.data r' e
        refine ⟨by rw [rl.length, ← szL]; exact c, fun p np => ?_⟩
        obtain ⟨s2, p2, z, ni⟩ := s'.loose np (.lst vs)
        refine hQ _ _ g' s2 (p'.trans p2) ⟨p, vs, rfl, upd_same, z, ni, rl, ?_⟩
        cases n0 : H p with
        | none => rfl
        | some u =>
          by_cases m : p ∈ g.ι
          · obtain ⟨t, et⟩ := p'.i
            exact (ni (by rw [et]; exact List.mem_append_left _ m)).elim
          · have := (p'.k p u n0 m).1
            rw [np] at this; cases this
      · exact trivial

/-- a new list: x + y -/
theorem SL.cat {a b : Te} {ea eb : Expr} {pos : Pos} {Ra Rb : Gh → Hp → Vl → V → Prop} (gx : GX X c pg tb G C n) (ha : ∀ g H x v, Ra g H x v → PkR pg.K g H x v) (hb : ∀ g H x v, Rb g H x v → PkR pg.K g H x v)
    (q1 : SR pg X σ g H Ra (evE C G a env h) (wE X ea σ H)) (q2 : ∀ h1 g1 H1, Sim pg.K g1 h1 H1 → Pres g H g1 H1 → SR pg X σ g1 H1 Rb (evE C G b env h1) (wE X eb σ H1)) :
    SR pg X σ g H (NwR pg.K H) (evL C G (.cat a b) env h) (wE X (.BinOp ea .Add eb pos) σ H) := by
  rw [evL]
  refine SR.bind (w2 := fun x H1 Q => wE X eb σ H1 fun y H2 => ∀ σ, wO X (binaryOp .Add) σ x y H2 Q) q1 (fun Q hq => wE_of (pe_op opR_w pe_w pe_w) hq) fun x h1 v H1 g1 _ s1 p1 r1 => ?_
  refine SR.bind (w2 := fun y H2 Q => ∀ σ, wO X (binaryOp .Add) σ v y H2 Q) (q2 h1 g1 H1 s1 p1) (fun _ hq => hq) fun y h2 u H2 g2 _ s2 p2 r2 => ?_
  have rx := (ha _ _ _ _ r1).mono p2
  have ry := hb _ _ _ _ r2
  split
  · rename_i xs ys
    split
    · rename_i cl
      obtain ⟨pa, vs, rfl, hq, r⟩ := PkD.list s2 rx
      obtain ⟨pb, ws, rfl, hq2, r2⟩ := PkD.list s2 ry
      refine fun Q hQ σ' => wO_of op_cat ⟨pa, pb, vs, ws, rfl, rfl, hq, hq2, by rw [r.length, r2.length]; exact szL ▸ cl, fun p np => ?_⟩
      obtain ⟨s3, p3, z, ni⟩ := s2.loose np (.lst (vs ++ ws))
      refine hQ _ _ g2 s3 p3 ⟨p, _, rfl, upd_same, z, ni, r.append r2, ?_⟩
      have p' := p1.trans p2
      cases n0 : H p with
      | none => rfl
      | some u =>
        by_cases m : p ∈ g.ι
        · obtain ⟨t, et⟩ := p'.i
          exact (ni (by rw [et]; exact List.mem_append_left _ m)).elim
        · have := (p'.k p u n0 m).1
          rw [np] at this; cases this
    · exact trivial
  · exact trivial

/-! ### calls -/
def wF (X : Cx) (f : Addr) (vs : List V) (σ : Sg) (H : Hp) (Q : VK) : Prop := ∀ (pins : List (Addr × Obj)) (s : Shared) (us : List Value), Inv X pins σ H s → Vals vs us → wpAny (model X.prog X.w) X.A (call (.ref f) us) (EP X pins σ Q) X.xe s
theorem noCX {P : Program} {w : World} {outer : List Env} {s s' : Shared} {e : Value} (h : L2.CX P w outer H s (fun _ _ _ => False) e s') : False := by
  obtain ⟨_, _, _, _, _, _, _, _, _, _, _, _, z⟩ := h
  exact z
theorem VlRL.cat {K : PySem.W.Frag} {g : Gh} : ∀ {xs ys : List Vl} {vs ws : List V}, VlRL K g xs vs → VlRL K g ys ws → VlRL K g (xs ++ ys) (vs ++ ws)
  | [], _, _, _, r, q => by
    have r : _ = [] := r
    subst r
    exact q
  | x :: xs, ys, _, ws, ⟨v, t, e, r1, r2⟩, q => ⟨v, t ++ ws, by rw [e]; rfl, r1, VlRL.cat r2 q⟩
theorem VlRL.of_data {K : PySem.W.Frag} {g : Gh} : ∀ {ds : List PyData} {vs : List V}, RpL K (fun _ => none) ds vs → VlRL K g (ds.map .d) vs
  | [], _, r => by
    simp only [RpL] at r
    exact r
  | d :: ds, _, r => by
    simp only [RpL] at r
    obtain ⟨v, t, rfl, r1, r2⟩ := r
    exact ⟨v, t, rfl, Rp.mono (fun a o e => by cases e) d v r1, VlRL.of_data r2⟩
theorem call_okD {f : Addr} {fd : FuncData} {ps : List Str} {F : List Vl → Sh → R Vl} {xs : List Vl} {vs vs0 : List V} {us0 : List Value} {df : List PyData} (gx : GX X c pg tb G C n) (hb : Binds pg.K fd ps us0) (rv0 : Vals vs0 us0) (rd : RpL pg.K (fun _ => none) df vs0) (hF : FnG pg n f fd ps F)
    (hl0 : xs.length + df.length = ps.length) (s : Sim pg.K g h H) (r0 : VlRL pg.K g xs vs) :
    SR pg X σ g H (VlRel pg.K) (F (xs ++ df.map .d) h) (wF X f vs σ H) := by
  have r := r0.cat (VlRL.of_data (g := g) rd)
  have lenV : ∀ {xs : List Vl} {vs : List V}, VlRL pg.K g xs vs → vs.length = xs.length := by
    intro xs
    induction xs with
    | nil => intro vs r; have r : vs = [] := r; subst r; rfl
    | cons x xs ih =>
      intro vs r
      obtain ⟨v, t, rfl, _, r2⟩ := r
      rw [List.length_cons, List.length_cons, ih r2]
  have e0 : ∀ {pins : List (Addr × Obj)} {s1 : Shared}, Inv X pins σ H s1 → Env0 pg.P pg.w pg.K pg.mg pg.base X.A X.stack s1 H := fun I => by
    have q := I.env0
    rw [gx.hP, gx.hw, gx.hK, gx.hm, gx.hb] at q
    exact q
  have bnd : ∀ {pins : List (Addr × Obj)} {s1 : Shared} {us : List Value}, Inv X pins σ H s1 → us.length + us0.length = ps.length → BindsTo s1 fd ⟨us, []⟩ (ps.zip (us ++ us0)) := fun {pins s1 us} I hu => hb s1 us (gx.hK ▸ I.kIn) (by rw [List.length_append]; exact hu)
  have l0 : us0.length = df.length := by rw [← rv0.length, rd.length]
  cases q : F (xs ++ df.map .d) h with
  | no => exact trivial
  | ok x h' =>
    refine fun Q hQ pins s1 us I rv => ?_
    have hv0 : vs.length = xs.length := lenV r0
    have hvl : (vs ++ vs0).length = ps.length := by rw [List.length_append, hv0, rd.length]; exact hl0
    refine wpAny_call ?_
    have hM : model X.prog X.w = model pg.P pg.w := by rw [gx.hP, gx.hw]
    rw [hM]
    refine codeAny_mono (hF.run X.A X.stack s1 H ⟨us, []⟩ (us ++ us0) (vs ++ vs0) (xs ++ df.map .d) h g Q (fun _ _ _ => False) gx.room gx.gd (e0 I) (bnd I (by rw [← rv.length, hv0, l0]; exact hl0)) (rv.append rv0) hvl s r ?_) fun rr s' hq => ?_
    · rw [q]
      exact hQ
    · cases rr with
      | error e => exact (noCX hq).elim
      | ok fl =>
        cases fl with
        | ret u => exact I.after (by rw [gx.hP, gx.hw]; exact hq)
        | next => exact False.elim hq
        | brk => exact False.elim hq
        | cont => exact False.elim hq
  | ex x h' =>
    refine fun W tk hW Q pins s1 us I rv => ?_
    have hv0 : vs.length = xs.length := lenV r0
    have hvl : (vs ++ vs0).length = ps.length := by rw [List.length_append, hv0, rd.length]; exact hl0
    refine wpAny_call ?_
    have hM : model X.prog X.w = model pg.P pg.w := by rw [gx.hP, gx.hw]
    rw [hM]
    refine codeAny_mono (hF.run X.A X.stack s1 H ⟨us, []⟩ (us ++ us0) (vs ++ vs0) (xs ++ df.map .d) h g (fun _ _ => False) (fun cls dx H' => W cls dx σ H') gx.room gx.gd (e0 I) (bnd I (by rw [← rv.length, hv0, l0]; exact hl0)) (rv.append rv0) hvl s r ?_) fun rr s' hq => ?_
    · rw [q]
      exact fun cls dx H' g' s' p' r' => hW cls dx H' g' s' p' r'
    · cases rr with
      | error e => exact tk e s' (XE.of_call (W := W) I (fun cls d H' (z : W cls d σ H') => z) (by rw [gx.hP, gx.hw]; exact hq))
      | ok fl =>
        cases fl with
        | ret u =>
          obtain ⟨_, _, _, _, _, _, _, z⟩ := hq
          exact z.elim
        | next => exact False.elim hq
        | brk => exact False.elim hq
        | cont => exact False.elim hq
theorem call_ok {f : Addr} {fd : FuncData} {ps : List Str} {F : List Vl → Sh → R Vl} {xs : List Vl} {vs vs0 : List V} {us0 : List Value} {df : List PyData} (gx : GX X c pg tb G C n) (hb : Binds pg.K fd ps []) (hb0 : Binds pg.K fd ps us0) (rv0 : Vals vs0 us0) (rd : RpL pg.K (fun _ => none) df vs0) (hF : FnG pg n f fd ps F)
    (hl : ∀ xs h, F xs h ≠ .no → xs.length = ps.length ∨ (xs.length + df.length = ps.length ∧ F xs h = F (xs ++ df.map .d) h)) (s : Sim pg.K g h H) (r : VlRL pg.K g xs vs) :
    SR pg X σ g H (VlRel pg.K) (F xs h) (wF X f vs σ H) := by
  by_cases q : F xs h = .no
  · rw [q]; exact trivial
  · rcases hl xs h q with e | ⟨e1, e2⟩
    · have := call_okD (df := []) (vs0 := []) (us0 := []) (σ := σ) gx hb .nil RpL.nil hF (by simpa using e) s r
      rw [List.map_nil, List.append_nil] at this
      exact this
    · rw [e2]
      exact call_okD gx hb0 rv0 rd hF e1 s r
theorem SE.call {f : Nat} {es : List Te} {ees : List Expr} {x : Str} {p pos : Pos} (gx : GX X c pg tb G C n) (hg : glB c x = true) (hf : tb.fn f = some x) (ns : noStars ees = true) (q1 : SR pg X σ g H (ArR pg.K false) (evEs C G es env h) (wA X ees σ H)) :
    SR pg X σ g H (VlRel pg.K) (evE C G (.call f es) env h) (wE X (.Call (.Name x p) ees [] pos) σ H) := by
  obtain ⟨o1, o2⟩ := glB_of hg
  obtain ⟨a, fd, ps, df, us0, vs0, hm, hk, hb, hF, hb0, rv0, rd, hl⟩ := gx.cl f x hf
  rw [evE]
  refine SR.bind (w2 := fun vs H1 Q => wF X a vs σ H1 Q) q1 (fun Q hq pins s I => ?_) fun xs h1 vs H1 g1 _ s1 p1 r1 => call_ok gx hb hb0 rv0 rd hF hl s1 (AllR.vl r1)
  refine wpAny_Call_Name_kw (ld_glob I (gx.gl' o1) (by rw [gx.hm]; exact hm) ?_ o2)
  cases ees with
  | nil =>
    refine PySem.W.callWith_K0 I.kIn (gx.hK ▸ hk) ?_
    have q := hq pos pins s I
    show wpAny (model X.prog X.w) X.A (spliced [] >>= fun us => PySem.call (.ref a) us) _ _ _
    exact wpAny_bind (thn q fun us s1 ⟨vs, H1, I1, rv, q3⟩ => q3 pins s1 us I1 rv)
  | cons e0 er =>
    rw [noStars, Bool.and_eq_true] at ns
    exact PySem.W.callWith_K (h₀ := X.base) I.ok.mod.kin (gx.hK ▸ hk) (thn (hq pos pins s I) fun us s1 ⟨vs, H1, I1, rv, q⟩ => ⟨I1.kIn, q pins s1 us I1 rv⟩) (star_cons ns.1) (star_any ns.2)

theorem cR_w {f : Value} : CallR X f (fun vs H Q => ∀ σ, wC X f σ vs H Q) := fun pins s σ H vs us Q I rv h => h σ pins s us I rv
theorem bt_of (gx : GX X c pg tb G C n) {b : BI} : X.mg (biN b) = none := by
  rw [gx.hm]
  exact gx.bt _ (by cases b <;> decide +kernel)
theorem SE.bi {b : BI} {es : List Te} {e0 : Expr} {er : List Expr} {x : Str} {p pos : Pos} (gx : GX X c pg tb G C n) (hg : glB c x = true) (hx : x = biN b) (ns : noStars (e0 :: er) = true) (q1 : SR pg X σ g H (ArR pg.K true) (evEs C G es env h) (wA X (e0 :: er) σ H)) :
    SR pg X σ g H (VlRel pg.K) (evE C G (.bi b es) env h) (wE X (.Call (.Name x p) (e0 :: er) [] pos) σ H) := by
  subst hx
  obtain ⟨o1, o2⟩ := glB_of hg
  rw [noStars, Bool.and_eq_true] at ns
  have go : ∀ Q : VK, wA X (e0 :: er) σ H (fun vs H1 => ∀ σ, wC X (biF b) σ vs H1 Q) → wE X (.Call (.Name (biN b) p) (e0 :: er) [] pos) σ H Q := fun Q hq => by
    have hm := bt_of gx (b := b)
    cases b
    case int => exact wE_of (pe_callTy cR_w (gx.gl' o1) hm (by decide +kernel) pa_w (by decide) o2 (star_cons ns.1) (star_any ns.2)) hq
    case str => exact wE_of (pe_callTy cR_w (gx.gl' o1) hm (by decide +kernel) pa_w (by decide) o2 (star_cons ns.1) (star_any ns.2)) hq
    case tuple => exact wE_of (pe_callTy cR_w (gx.gl' o1) hm (by decide +kernel) pa_w (by decide) o2 (star_cons ns.1) (star_any ns.2)) hq
    case list => exact wE_of (pe_callTy cR_w (gx.gl' o1) hm (by decide +kernel) pa_w (by decide) o2 (star_cons ns.1) (star_any ns.2)) hq
    all_goals exact wE_of (pe_callB cR_w (gx.gl' o1) hm (by decide +kernel) pa_w (by decide) o2 (star_cons ns.1) (star_any ns.2)) hq
  rw [evE]
  refine SR.bind (w2 := fun vs H1 Q => ∀ σ, wC X (biF b) σ vs H1 Q) q1 go fun xs h1 vs H1 g1 _ s1 p1 r1 => ?_
  have hu : X.A.units + 190 < cLine := by have := gx.room.un; omega
  cases e : datL xs with
  | some ds => exact SR.lift fun z e2 Q hQ σ => bi_ok gx.hK gx.calm gx.gd hu s1 (AllR.pk r1 e) e2 hQ
  | none =>
    dsimp only
    split
    · rename_i hb
      subst hb
      refine SR.lift fun z e2 Q hQ σ => ?_
      have hx : ∃ x, xs = [x] := by
        unfold lenV at e2
        split at e2
        · exact ⟨_, rfl⟩
        · exact ⟨_, rfl⟩
        · cases e2
      obtain ⟨y, rfl⟩ := hx
      obtain ⟨v, t, rfl, r2, r3⟩ := r1
      have r3 : t = [] := r3
      subst r3
      exact len_ok gx.hK s1 r2 e2 hQ
    · exact trivial
end
end Mi
/-! Mi: enumerate(a tuple). -/
namespace Mi
open PySem PySem.Spec PyProof.Rows L2
open Sem (wp)
theorem newEnumT {ta : Addr} {vals : Array Value} :
    Meets (Builtin.«enumerate.__new__» ⟨[.type "enumerate", .ref ta], []⟩) (fun _ Rs st => st.heap.IsTuple ta vals ∧
      Rs (.ok (.ret (.ref (st.heap.push { cls := .type "tuple_iterator", data := .fields #[.ref ta, .int 0 0] }).objs.size))) { st with heap := (st.heap.push { cls := .type "tuple_iterator", data := .fields #[.ref ta, .int 0 0] }).push { cls := .type "enumerate", data := .fields #[.none, .bool false, .ref st.heap.objs.size, rawInt 0, .none, .none] } }) :=
  .of_wp fun pr wd Ar Rs st hh => by
    obtain ⟨hp, gg, dd, tk, os⟩ := st; obtain ⟨hT, hh⟩ := hh
    have hs := sub_enumerate
    have hB := begins_tuple ta vals
    have q1 : ∀ {A' : Around} {E Q : Value → Shared → Prop}, Q (.ref hp.objs.size) ⟨hp.push { cls := .type "tuple_iterator", data := .fields #[.ref ta, .int 0 0] }, gg, dd, tk, os⟩ → wpAny (model pr wd) A' (pyIter (.ref ta)) Q E ⟨hp, gg, dd, tk, os⟩ := fun q => hB.iter pr wd _ _ ⟨hp, gg, dd, tk, os⟩ _ hT q
    obtain ⟨ob, ho, hcl, tn, hda⟩ := hT
    obtain ⟨c0, d0, t0, s0⟩ := ob
    replace hcl : c0 = .type "tuple" := hcl
    replace hda : t0 = .seq vals tn := hda
    subst hcl hda
    wp_walk using AutoSeq1.wpAny_loadPart' ho
    refine wpAny_stack_any fun st => wpAny_pure ?_
    split
    · rename_i cc _ _ _ _ _
      cases (cc == Value.type "enumerate")
      · wp_walk using AutoSeq1.wpAny_loadPart' ho, q1
        exact ⟨_, rfl, hh⟩
      · wp_walk using AutoSeq1.wpAny_loadPart' ho, q1
        exact ⟨_, rfl, hh⟩
    · wp_walk using AutoSeq1.wpAny_loadPart' ho, q1
      exact ⟨_, rfl, hh⟩
def Itet (K : PySem.W.Frag) (a : Addr) : L2.It :=
  ⟨fun i H => ∃ (xs : List V) (x : V), SqT K H a xs ∧ xs[i]? = some x, fun i H v H' => ∃ T x, v = .ref T ∧ H T = none ∧ H' = upd H T (.tup [.int (i : Nat), x]) ∧ ∀ xs, SqT K H a xs → xs[i]? = some x, fun i H => ∃ xs : List V, SqT K H a xs ∧ xs.length = i⟩
theorem apart_cls {hp : Heap} {a b : Addr} {vals : Array Value} {o : Obj} (t : hp.IsTuple a vals) (hb : hp.get? b = some o) (n : o.cls ≠ .type "tuple") : a ≠ b := fun e => by
  obtain ⟨o2, h2, c2, _⟩ := t
  rw [e, hb] at h2
  cases h2
  exact n c2
theorem goEnumT {P : Program} {w : World} {K : PySem.W.Frag} {elts : List Expr} {kk : Nat} {tpos : Pos} (a e it : Addr) :
    Turn P w K (.Tuple elts kk tpos) (Itet K a) [e, it] e (fun i h => (∃ old, IsEnum h e it ((i : Nat) : Int) old) ∧ h.IsTupleIter it a i ∧ e ≠ it) where
  mem := List.mem_cons_self
  obj := fun i h st b hb => by
    obtain ⟨⟨old, he⟩, ⟨o, ho, hc, hd⟩, _⟩ := st
    rcases List.mem_cons.mp hb with z | z
    · exact ⟨_, z ▸ he, fun v q => by cases q⟩
    · exact ⟨o, List.mem_singleton.mp z ▸ ho, fun v q => by rw [hd] at q; cases q⟩
  keep := fun i h h' st k => ⟨st.1.imp fun old he => k e List.mem_cons_self _ he, st.2.1.at fun o q => k it (by simp) o q, st.2.2⟩
  item := by
    intro Y eP ew eK hcalm i pins s σ H E I hf st hg
    subst eP ew eK
    obtain ⟨⟨old, he⟩, hit, hne⟩ := st
    obtain ⟨xs, x, hq, hx⟩ := hg
    obtain ⟨its, rv, tp, hz⟩ := I.tuple hq
    obtain ⟨u, hu, ru⟩ := rv.get hx
    have tp : s.heap.IsTuple a its.toArray := tp
    have h1 : a ≠ e := apart_cls tp he (by simp)
    have h2 : a ≠ it := by
      obtain ⟨oo, ho, hc, _⟩ := hit
      exact apart_cls tp ho (by rw [hc]; simp)
    have D := Draws.tuple (prog := Y.prog) (w := Y.w) (A := Y.A.in1) (I.ok.hd hcalm) it a h2 its.toArray
    have hel : e < s.heap.objs.size := Heap.lt_size he
    have hil : it < s.heap.objs.size := by obtain ⟨_, q, _⟩ := hit; exact Heap.lt_size q
    have hi : i < its.toArray.size := by rw [List.size_toArray]; exact (List.getElem?_eq_some_iff.mp hu).1
    refine wpAny_pyNext_enum_itemD D he ⟨hit, tp⟩ hi hne (by simp [hne, Ne.symm h1]) fun x' h' tk hP ho hst hT hsz hk => ?_
    have ex : x' = u := by
      have q : its.toArray[i]? = some x' := hP
      rw [List.getElem?_toArray, hu] at q
      cases q; rfl
    subst ex
    refine ⟨_, rfl, wpAny_letOwnedTupleGo_enum (s := { s with heap := h', toks := tk + 1 }) ho fun h'' he' sb => ?_⟩
    have hT2 : h''.get? s.heap.objs.size = some { cls := .type "tuple", data := .seq #[.int i tk, x'] } := (sb.2 _ (Nat.ne_of_gt hel)).trans hT
    have new : ObjOk Y.prog Y.w (upd H s.heap.objs.size (.tup [.int (i : Nat), x])) h'' s.heap.objs.size (.tup [.int (i : Nat), x]) :=
      ⟨by show 2 ≤ sizeLine; decide, [.int i tk, x'], .cons ⟨_, rfl⟩ (.cons ru .nil), ⟨_, hT2, rfl, _, rfl⟩⟩
    have I1 : Inv Y pins σ (upd H s.heap.objs.size (.tup [.int (i : Nat), x])) { s with heap := h'', toks := tk + 1 } :=
      I.turnedNew (ch := [e, it]) (fun b ob hb q => (sb.2 b (fun z => hb (by simp [z]))).trans (hk b ob (fun z => hb (by simp [z])) (fun z => hb (by simp [z])) q)) hf (Nat.le_refl _) new
    refine ⟨.ref s.heap.objs.size, _, I1, rfl, ⟨_, x, rfl, I.hok.fresh (Nat.le_refl _), rfl, fun ys hy => ?_⟩, ⟨⟨x', ?_⟩, hst.1.at fun o q => (sb.2 it (Ne.symm hne)).trans q, hne⟩, fun b hb => ?_⟩
    · rw [I.tuple_inj hy hq]; exact hx
    · have e1 : ((i + 1 : Nat) : Int) = (i : Int) + 1 := by omega
      rw [e1]; exact he'
    · have hlt : b < s.heap.objs.size := by
        rcases List.mem_cons.mp hb with z | z
        · rw [z]; exact hel
        · rw [List.mem_singleton.mp z]; exact hil
      rw [upd_ne (Nat.ne_of_lt hlt)]
      exact (hf b hb).1
  done := by
    intro Y eP ew eK hcalm i pins s σ H E I hf st hg
    subst eP ew eK
    obtain ⟨⟨old, he⟩, hit, hne⟩ := st
    obtain ⟨xs, hq, hx⟩ := hg
    obtain ⟨its, rv, tp, hz⟩ := I.tuple hq
    have tp : s.heap.IsTuple a its.toArray := tp
    obtain ⟨f0, f1, f2, f3, f4, f5⟩ := hf it (by simp)
    have hl := rv.length
    subst hx
    have h2 : a ≠ it := by
      obtain ⟨oo, ho, hc, _⟩ := hit
      exact apart_cls tp ho (by rw [hc]; simp)
    have D := Draws.tuple (prog := Y.prog) (w := Y.w) (A := Y.A.in1) (I.ok.hd hcalm) it a h2 its.toArray
    exact wpAny_pyNext_enum_endD D he ⟨by rw [List.size_toArray, ← hl]; exact hit, tp⟩ fun h' eb => ⟨rfl, I.turned (t' := s.toks) (fun b o hb q => eb b o hb q) f0 f1 f3 f4 f5⟩
  self := fun A i s Q E st h => wpAny_pyIter_enum st.1.choose_spec h
theorem callEnumT {prog : Program} {w : World} {A : Around} {E : Value → Shared → Prop} {s : Shared} {ta : Addr} {vals : Array Value} {Q : Value → Shared → Prop} (hT : s.heap.IsTuple ta vals)
    (fin : ∀ h', IsEnum h' (s.heap.objs.size + 1) s.heap.objs.size 0 .none → h'.IsTupleIter s.heap.objs.size ta 0 →
      (∀ b o, s.heap.get? b = some o → h'.get? b = some o) → Q (.ref (s.heap.objs.size + 1)) { s with heap := h' }) :
    wpAny (model prog w) A (call (.type "enumerate") [.ref ta]) Q E s := by
  refine callType_new F.called_enumerate (by decide) (F.typeCall_enumerate_1 _) (F.newCall_enumerate_1 _) (fun obj => F.args_object_init_2 obj _) F.entry_enumerate_new (newEnumT (vals := vals)) ⟨hT, ?_⟩
  generalize ho1 : ({ cls := .type "tuple_iterator", data := .fields #[.ref ta, .int 0 0] } : Obj) = o1
  have hf : (s.heap.push o1).objs.size = s.heap.objs.size + 1 := Heap.size_push ..
  generalize ho2 : ({ cls := .type "enumerate", data := .fields #[.none, .bool false, .ref s.heap.objs.size, rawInt 0, .none, .none] } : Obj) = o2
  have g2 : ((s.heap.push o1).push o2).get? (s.heap.objs.size + 1) = some o2 := by
    have := Heap.get?_push_size (s.heap.push o1) (o := o2) (by rw [← ho2]; rfl)
    rw [hf] at this; exact this
  show _ ∧ _
  rw [hf]
  subst ho2
  refine ⟨⟨_, g2, rfl⟩, fin _ g2 ⟨o1, Heap.get?_push_of_some _ (Heap.get?_push_size _ (by rw [← ho1]; rfl)), by rw [← ho1], by rw [← ho1]; rfl⟩ fun b o x => Heap.get?_push_of_some _ (Heap.get?_push_of_some _ x)⟩
def iEnumA (K : PySem.W.Frag) (ta : TA) : TI := fun σ H R => ta σ H fun vs H1 => (∃ a xs, vs = [.ref a] ∧ SqL K H1 a xs ∧ R (Ite K a) H1) ∨ (∃ a xs, vs = [.ref a] ∧ SqT K H1 a xs ∧ R (Itet K a) H1)
theorem pi_enumA {X : Cx} {e : Expr} {ta : TA} {p pos tpos : Pos} {elts : List Expr} {kk : Nat} (hg : Gl X "enumerate") (hm : X.mg "enumerate" = none) (ha : PA X [e] ta) (hs : starEach [e] X.env = [(false, eval e X.env)]) :
    PI X (.Tuple elts kk tpos) (.Call (.Name "enumerate" p) [e] [] pos) (iEnumA X.K ta) := by
  refine ⟨fun pins s σ H R I h => ?_⟩
  refine Call_ (ld_blt I hg hm boot_enumerate (PyProof.Rows.callWith_type1 (thn (ha.run pos pins s σ H _ I h) fun us s1 ⟨vs, H1, I1, r1, q1⟩ => ?_) hs rfl))
  have low : ∀ b : Addr, b ∈ [s1.heap.objs.size + 1, s1.heap.objs.size] → s1.heap.objs.size ≤ b := fun b hb => by
    rcases List.mem_cons.mp hb with z | z
    · rw [z]; exact Nat.le_add_right _ _
    · rw [List.mem_singleton.mp z]; exact Nat.le_refl _
  rcases q1 with ⟨a, xs, ex, hq, q⟩ | ⟨a, xs, ex, hq, q⟩
  · subst ex
    cases r1 with
    | cons r rr =>
      cases rr; cases r
      obtain ⟨its, rv, p', hz⟩ := I1.list hq
      refine call_enumerate_list p'.isList fun h' he hit hsz hk => wpAny_pyIter_enum he ?_
      exact ⟨s1.heap.objs.size + 1, [s1.heap.objs.size + 1, s1.heap.objs.size], _, _, H1, rfl, I1.kept (t' := s1.toks) hk, turn_enum a (s1.heap.objs.size + 1) s1.heap.objs.size, ⟨⟨.none, he⟩, hit, Nat.succ_ne_self _⟩, fun b hb => I1.fpOk (low b hb) (I1.hok.fresh (low b hb)), q⟩
  · subst ex
    cases r1 with
    | cons r rr =>
      cases rr; cases r
      obtain ⟨its, rv, tp, hz⟩ := I1.tuple hq
      have tp : s1.heap.IsTuple a its.toArray := tp
      refine callEnumT tp fun h' he hit hk => wpAny_pyIter_enum he ?_
      exact ⟨s1.heap.objs.size + 1, [s1.heap.objs.size + 1, s1.heap.objs.size], _, _, H1, rfl, I1.kept (t' := s1.toks) hk, goEnumT a (s1.heap.objs.size + 1) s1.heap.objs.size, ⟨⟨.none, he⟩, hit, Nat.succ_ne_self _⟩, fun b hb => I1.fpOk (low b hb) (I1.hok.fresh (low b hb)), q⟩
end Mi
/-! Mi: targets, what is walked, comprehensions. -/
namespace Mi
open PySem PySem.Spec PyProof.Rows L2

/-! ### targets -/
def gNs : List Nat → TGs
  | [] => gNil
  | i :: is => gCons (gName i) (gNs is)
def gOf (K : PySem.W.Frag) : Tg → TG
  | .n i => gName i
  | .t is => fun v σ H Q => gTup K is.length (gNs is) v σ H Q ∨ gUnl K is.length (gNs is) v σ H Q
  | .st _ _ => fun _ _ _ _ => False

section
variable {pg : Pg} {tb : Tb} {G : Nat → Option PyData} {C : Cf} {n : Nat} {X : Cx} {c : Cd} {g : Gh} {H : Hp} {σ : Sg} {h : Sh} {env : En}

theorem stB_of (gx : GX X c pg tb G C n) {i : Nat} {x : Str} (ok : stB c i x = true) : X.N[i]? = some x ∧ L2.Loc X.env.scope x ∧ (X.fn x = true ∨ X.env.scope.names.lookup x = some .local) := by
  unfold stB at ok
  rw [Bool.and_eq_true, Bool.or_eq_true, Bool.and_eq_true] at ok
  rw [gx.N, gx.fn]
  unfold L2.Loc
  rw [gx.sc]
  refine ⟨of_decide_eq_true ok.1, ?_, ?_⟩
  · rcases ok.2 with k | k
    · exact .inl (of_decide_eq_true k)
    · exact .inr (of_decide_eq_true k.1)
  · rcases ok.2 with k | k
    · exact .inr (of_decide_eq_true k)
    · exact .inl k.2
theorem pg_nm (gx : GX X c pg tb G C n) {i : Nat} {x : Str} {pos : Pos} (ok : stB c i x = true) : PG X (.Name x pos) (gName i) := by
  obtain ⟨o1, o2, o3⟩ := stB_of gx ok
  exact pg_name (by rw [gx.N]; exact gx.nd) o1 o2 o3
theorem stBs_len : ∀ {is : List Nat} {es : List Expr}, stBs c is es = true → es.length = is.length
  | [], [], _ => rfl
  | i :: is, e :: es, ok => by
    cases e <;> simp only [stBs, Bool.and_eq_true] at ok <;> first | (rw [List.length_cons, List.length_cons, stBs_len ok.2]) | cases ok
  | [], _ :: _, ok => by cases ok
  | _ :: _, [], ok => by cases ok
theorem pgs_nms (gx : GX X c pg tb G C n) : ∀ {is : List Nat} {es : List Expr}, stBs c is es = true → PGs X es (gNs is) ∧ (assignEach es X.env).length = es.length ∧ (assignEach es X.env).findIdx? (·.1) = none
  | [], [], _ => ⟨pgs_nil, rfl, rfl⟩
  | i :: is, e :: es, ok => by
    cases e <;> simp only [stBs, Bool.and_eq_true] at ok <;> try cases ok
    rename_i o1 o2
    obtain ⟨q1, q2, q3⟩ := pgs_nms gx o2
    refine ⟨pgs_cons (pg_nm gx o1) q1, ?_, ?_⟩
    · show (assignEach es X.env).length + 1 = _
      rw [q2]; rfl
    · show List.findIdx? _ ((false, _) :: assignEach es X.env) = none
      rw [List.findIdx?_cons, q3]
      rfl
  | [], _ :: _, ok => by cases ok
  | _ :: _, [], ok => by cases ok
theorem pg_of (gx : GX X c pg tb G C n) {tg : Tg} {e : Expr} (ok : tgB c tg e = true) : PG X e (gOf pg.K tg) := by
  cases tg with
  | n i => cases e <;> simp only [tgB] at ok <;> first | exact pg_nm gx ok | cases ok
  | t is =>
    cases e <;> simp only [tgB] at ok <;> try cases ok
    obtain ⟨q1, q2, q3⟩ := pgs_nms gx ok
    rw [← gx.hK]
    refine ⟨fun pins s σ H v u Q I r q => ?_⟩
    rcases q with q | q
    · exact (pg_tup gx.calm q1 (by rw [q2, stBs_len ok]) q3).run pins s σ H v u Q I r q
    · exact (pg_unl gx.calm q1 (by rw [q2, stBs_len ok]) q3).run pins s σ H v u Q I r q
  | st is r => cases e <;> cases ok
/-- names set to items -/
theorem bindIs_ok : ∀ {is : List Nat} {ds : List PyData} {vs : List V} {env env' : En} {σ : Sg} {Q : Sg → Hp → Prop}, bindIs is ds env = some env' → RpL pg.K g.Z ds vs → EnR pg.K g H env σ → (∀ σ', EnR pg.K g H env' σ' → (∀ ws, (∀ i ∈ is, i ∈ ws) → wipe σ' ws = wipe σ ws) → Q σ' H) → gNs is vs σ H Q
  | [], [], vs, env, env', σ, Q, e, r, en, q => by
    simp only [bindIs, Option.some.injEq] at e
    subst e
    simp only [RpL] at r
    exact ⟨r, q σ en fun _ _ => rfl⟩
  | i :: is, d :: ds, vs, env, env', σ, Q, e, r, en, q => by
    simp only [RpL] at r
    obtain ⟨v, t, rfl, r1, r2⟩ := r
    have en2 : EnR pg.K g H (env.set i (.v (.d d))) (σ.set i (some v)) := en.set (x := .d d) r1
    refine ⟨v, t, rfl, bindIs_ok (is := is) e r2 en2 fun σ' en' w => q σ' en' fun ws hw => ?_⟩
    rw [w ws fun j m => hw j (List.mem_cons_of_mem _ m)]
    exact wipe_set (hw i List.mem_cons_self)
  | [], _ :: _, _, _, _, _, _, e, _, _, _ => by simp [bindIs] at e
  | _ :: _, [], _, _, _, _, _, e, _, _, _ => by simp [bindIs] at e
where
  wipe_set {σ : Sg} {i : Nat} {o : Option V} : ∀ {ws : List Nat}, i ∈ ws → wipe (σ.set i o) ws = wipe σ ws
    | w :: ws, m => by
      unfold wipe
      by_cases hi : i ∈ ws
      · rw [wipe_set hi]
      · have e : i = w := by
          rcases List.mem_cons.mp m with e | m
          · exact e
          · exact absurd m hi
        subst e
        have : ∀ ws : List Nat, i ∉ ws → wipe (σ.set i o) ws = (wipe σ ws).set i o := by
          intro ws
          induction ws with
          | nil => intro _; rfl
          | cons x xs ih =>
            intro hx
            have h1 : i ≠ x := fun e => hx (e ▸ List.mem_cons_self)
            unfold wipe
            rw [ih fun m => hx (List.mem_cons_of_mem _ m), List.set_comm _ _ h1]
        rw [this ws hi, List.set_set]
theorem bindIs_len : ∀ {is : List Nat} {xs : List PyData} {env env' : En}, bindIs is xs env = some env' → xs.length = is.length
  | [], [], _, _, _ => rfl
  | i :: is, x :: xs, env, env', e => by rw [List.length_cons, List.length_cons, bindIs_len (is := is) e]
  | [], _ :: _, _, _, e => by simp [bindIs] at e
  | _ :: _, [], _, _, e => by simp [bindIs] at e
theorem tg_ok {tg : Tg} {x : Vl} {v : V} {env' : En} {Q : Sg → Hp → Prop} (hs : (∃ is r, tg = .st is r) → False) (e : bindTg tg x env = some env') (s : Sim pg.K g h H) (r : VlR pg.K g x v) (en : EnR pg.K g H env σ)
    (q : ∀ σ', EnR pg.K g H env' σ' → (∀ ws, (∀ i ∈ tg.names, i ∈ ws) → wipe σ' ws = wipe σ ws) → Q σ' H) : gOf pg.K tg v σ H Q := by
  unfold bindTg at e
  split at e
  · rename_i i
    cases e
    exact q _ (en.set r) fun ws hw => bindIs_ok.wipe_set (hw _ (by simp [Tg.names]))
  · rename_i is xs
    have r : Rp pg.K g.Z (.tuple xs) v := r
    simp only [Rp] at r
    obtain ⟨a, vs, rfl, hq, rl⟩ := r
    refine .inl ⟨a, vs, rfl, sqT_mono s.sub hq, ?_, bindIs_ok e rl en q⟩
    rw [rl.length]
    exact bindIs_len e
  · rename_i is xs
    have r : Rp pg.K g.Z (.list xs) v := r
    simp only [Rp] at r
    obtain ⟨a, vs, rfl, hq, rl⟩ := r
    refine .inr ⟨a, vs, rfl, .of (s.sub _ _ hq), ?_, bindIs_ok e rl en q⟩
    rw [rl.length]
    exact bindIs_len e
  · exact (hs ⟨_, _, rfl⟩).elim
  · cases e

/-! ### what is walked -/
structure Wk (K : PySem.W.Frag) (g0 : Gh) (items : List Vl) (J : L2.It) : Prop where
  go : ∀ (i : Nat) g h H, Sim K g h H → (∀ a o, g0.Z a = some o → g.Z a = some o) → i < items.length → J.go i H
  stop : ∀ g h H, Sim K g h H → (∀ a o, g0.Z a = some o → g.Z a = some o) → J.stop items.length H
  yld : ∀ (i : Nat) g h H x H', Sim K g h H → (∀ a o, g0.Z a = some o → g.Z a = some o) → i < items.length → J.yld i H x H' → ∃ g' y, items[i]? = some y ∧ Sim K g' h H' ∧ Pres g H g' H' ∧ VlR K g' y x
def wI (X : Cx) (tg iter : Expr) (σ : Sg) (H : Hp) (R : L2.It → Hp → Prop) : Prop := ∀ (pins : List (Addr × Obj)) (s : Shared), Inv X pins σ H s →
  wpAny (model X.prog X.w) X.A (eval iter X.env) (fun v s1 => wpAny (model X.prog X.w) X.A (pyIter v) (PIE X pins σ tg R) X.xe s1) X.xe s
theorem pi_w {tg iter : Expr} : PI X tg iter (wI X tg iter) := ⟨fun pins s σ H R I q => q pins s I⟩
theorem wI_of {tg iter : Expr} {t : TI} (p : PI X tg iter t) {R : L2.It → Hp → Prop} (q : t σ H R) : wI X tg iter σ H R := fun pins s I => p.run pins s σ H R I q
/-- a tuple or a list -/
def iSeq (K : PySem.W.Frag) (te : TE) : TI := fun σ H R => te σ H fun x H1 => (∃ a, x = .ref a ∧ (((∃ xs, SqL K H1 a xs) ∧ R (Itl K a) H1) ∨ ((∃ xs, SqT K H1 a xs) ∧ R (Itt K a) H1))) ∨ ∃ t, x = .str t ∧ R (Its t) H1
theorem pi_seq {tg e : Expr} {te : TE} (p : PE X e te) : PI X tg e (iSeq X.K te) := by
  refine ⟨fun pins s σ H R I q => thn (p.run pins s σ H _ I q) fun v s1 ⟨x, H1, I1, r1, q0⟩ => ?_⟩
  rcases q0 with ⟨a, ex, q1⟩ | ⟨z, ex, q1⟩
  rotate_left
  · subst ex
    obtain ⟨t, rfl⟩ := r1
    cases ha : z.cps.all (· < 128)
    · exact wpAny_pyIter_wide ha (pi_one (tk := s1.toks) I1 _ (turn_str _ z t "str_iterator" (.inr rfl)) ⟨_, Heap.get?_push_size _ rfl, rfl, rfl⟩ q1)
    · exact wpAny_pyIter_ascii ha (pi_one (tk := s1.toks) I1 _ (turn_str _ z t "str_ascii_iterator" (.inl rfl)) ⟨_, Heap.get?_push_size _ rfl, rfl, rfl⟩ q1)
  subst ex
  cases r1
  rcases q1 with ⟨⟨xs, hq⟩, q⟩ | ⟨⟨xs, hq⟩, q⟩
  · obtain ⟨its, rv, pl, _⟩ := I1.list hq
    refine wpAny_pyIter_list pl.isList ⟨s1.heap.objs.size, [s1.heap.objs.size], _, _, H1, rfl, I1.kept (t' := s1.toks) fun b o e => Heap.get?_push_of_some _ e, turn_list a _, ⟨_, Heap.get?_push_size _ rfl, rfl, rfl⟩, fun b hb => ?_, q⟩
    cases List.mem_singleton.mp hb
    exact I1.fpOk (Nat.le_refl _) (I1.hok.fresh (Nat.le_refl _))
  · obtain ⟨its, rv, pl, _⟩ := I1.tuple hq
    refine wpAny_pyIter_tuple (show s1.heap.IsTuple a its.toArray from pl) ⟨s1.heap.objs.size, [s1.heap.objs.size], _, _, H1, rfl, I1.kept (t' := s1.toks) fun b o e => Heap.get?_push_of_some _ e, turn_tuple a _, ⟨_, Heap.get?_push_size _ rfl, rfl, rfl⟩, fun b hb => ?_, q⟩
    cases List.mem_singleton.mp hb
    exact I1.fpOk (Nat.le_refl _) (I1.hok.fresh (Nat.le_refl _))
theorem get_map_d {xs : List PyData} {i : Nat} (hi : i < (xs.map Vl.d).length) : ∃ x, xs[i]? = some x ∧ (xs.map Vl.d)[i]? = some (.d x) := by
  rw [List.length_map] at hi
  exact ⟨xs[i], List.getElem?_eq_getElem hi, by rw [List.getElem?_map, List.getElem?_eq_getElem hi]; rfl⟩
theorem wk_list {xs : List PyData} {a : Addr} {vs : List V} (z : g.Z a = some (.lst vs)) (r : RpL pg.K g.Z xs vs) : Wk pg.K g (xs.map Vl.d) (Itl pg.K a) where
  go := fun i g' h' H' s m hi => by
    obtain ⟨x, e1, _⟩ := get_map_d hi
    obtain ⟨v, e2, _⟩ := r.get e1
    exact ⟨vs, v, .of (s.sub _ _ (m _ _ z)), e2⟩
  stop := fun g' h' H' s m => ⟨vs, .of (s.sub _ _ (m _ _ z)), by rw [List.length_map, r.length]; exact Nat.le_refl _⟩
  yld := fun i g' h' H' x H'' s m hi y => by
    obtain ⟨e0, y⟩ := y
    subst e0
    obtain ⟨d, e1, e2⟩ := get_map_d hi
    obtain ⟨v, e3, r3⟩ := r.get e1
    have := (y vs (.of (s.sub _ _ (m _ _ z)))).symm.trans e3
    cases this
    exact ⟨g', .d d, e2, s, Pres.refl, Rp.mono m d _ r3⟩
theorem wk_str {x : Str} : Wk pg.K g ((x.cps.toList.map fun c => PyData.str ⟨#[c]⟩).map Vl.d) (Its x) where
  go := fun i g' h' H' s m hi => by
    rw [List.length_map, List.length_map, Array.length_toList] at hi
    exact hi
  stop := fun g' h' H' s m => by
    rw [List.length_map, List.length_map, Array.length_toList]
    exact Nat.le_refl _
  yld := fun i g' h' H' v H'' s m hi y => by
    obtain ⟨e0, c, e1, e2⟩ := y
    subst e0 e2
    refine ⟨g', .d (.str ⟨#[c]⟩), ?_, s, Pres.refl, by simp only [VlR, Rp]⟩
    rw [List.getElem?_map, List.getElem?_map, Array.getElem?_toList, e1]
    rfl
theorem wk_tup {xs : List PyData} {a : Addr} {vs : List V} (z : SqT pg.K g.Z a vs) (r : RpL pg.K g.Z xs vs) : Wk pg.K g (xs.map Vl.d) (Itt pg.K a) where
  go := fun i g' h' H' s m hi => by
    obtain ⟨x, e1, _⟩ := get_map_d hi
    obtain ⟨v, e2, _⟩ := r.get e1
    exact ⟨vs, v, sqT_mono s.sub (sqT_mono m z), e2⟩
  stop := fun g' h' H' s m => ⟨vs, sqT_mono s.sub (sqT_mono m z), by rw [List.length_map, r.length]; exact Nat.le_refl _⟩
  yld := fun i g' h' H' x H'' s m hi y => by
    obtain ⟨e0, y⟩ := y
    subst e0
    obtain ⟨d, e1, e2⟩ := get_map_d hi
    obtain ⟨v, e3, r3⟩ := r.get e1
    have := (y vs (sqT_mono s.sub (sqT_mono m z))).symm.trans e3
    cases this
    exact ⟨g', .d d, e2, s, Pres.refl, Rp.mono m d _ r3⟩
theorem rng_get : ∀ (k : Nat) (lo : Int) (i : Nat), i < k → (rng lo k)[i]? = some (.d (.int (lo + i)))
  | 0, _, _, h => absurd h (Nat.not_lt_zero _)
  | k + 1, lo, 0, _ => by simp [rng]
  | k + 1, lo, i + 1, h => by
    show (rng (lo + 1) k)[i]? = _
    rw [rng_get k (lo + 1) i (by omega)]
    have : lo + 1 + (i : Int) = lo + ((i + 1 : Nat) : Int) := by omega
    rw [this]
theorem rng_len : ∀ (k : Nat) (lo : Int), (rng lo k).length = k
  | 0, _ => rfl
  | k + 1, lo => by
    show (rng (lo + 1) k).length + 1 = _
    rw [rng_len]
theorem wk_rng {lo : Int} {k : Nat} : Wk pg.K g (rng lo k) (Itr lo k) where
  go := fun i _ _ _ _ _ hi => by rw [rng_len] at hi; exact hi
  stop := fun _ _ _ _ _ => by rw [rng_len]; exact Nat.le_refl _
  yld := fun i g' h' H' x H'' s m hi y => by
    obtain ⟨e0, e1⟩ := y
    subst e0 e1
    rw [rng_len] at hi
    exact ⟨g', _, rng_get k lo i hi, s, Pres.refl, by simp only [VlR, Rp]⟩
theorem pairs_get : ∀ (xs : List PyData) (k i : Nat), i < xs.length → ∃ x, xs[i]? = some x ∧ (pairs k xs)[i]? = some (.d (.tuple [.int ((k + i : Nat) : Int), x]))
  | [], _, _, h => absurd h (Nat.not_lt_zero _)
  | x :: xs, k, 0, _ => ⟨x, rfl, rfl⟩
  | x :: xs, k, i + 1, h => by
    obtain ⟨y, e1, e2⟩ := pairs_get xs (k + 1) i (by simpa using h)
    refine ⟨y, by simpa using e1, ?_⟩
    show (pairs (k + 1) xs)[i]? = _
    rw [e2, show k + 1 + i = k + (i + 1) by omega]
theorem pairs_len : ∀ (xs : List PyData) (k : Nat), (pairs k xs).length = xs.length
  | [], _ => rfl
  | x :: xs, k => by
    show (pairs (k + 1) xs).length + 1 = _
    rw [pairs_len]; rfl
theorem wk_enum {xs : List PyData} {a : Addr} {vs : List V} (z : g.Z a = some (.lst vs)) (r : RpL pg.K g.Z xs vs) : Wk pg.K g (pairs 0 xs) (Ite pg.K a) where
  go := fun i g' h' H' s m hi => by
    rw [pairs_len] at hi
    obtain ⟨v, e2, _⟩ := r.get (List.getElem?_eq_getElem hi)
    exact ⟨vs, v, .of (s.sub _ _ (m _ _ z)), e2⟩
  stop := fun g' h' H' s m => ⟨vs, .of (s.sub _ _ (m _ _ z)), by rw [pairs_len, r.length]; exact Nat.le_refl _⟩
  yld := fun i g' h' H' x H'' s m hi y => by
    obtain ⟨T, w, e0, nT, e1, y⟩ := y
    subst e0 e1
    rw [pairs_len] at hi
    obtain ⟨d, e2, e3⟩ := pairs_get xs 0 i hi
    obtain ⟨v, e4, r4⟩ := r.get e2
    have := (y vs (.of (s.sub _ _ (m _ _ z)))).symm.trans e4
    cases this
    obtain ⟨s2, p2⟩ := s.frozen nT (.tup [.int (i : Nat), w])
    refine ⟨_, _, e3, s2, p2, ?_⟩
    show Rp _ _ _ _
    simp only [Rp]
    refine ⟨T, _, rfl, .of (by show upd _ T _ T = _; rw [upd_same]), RpL.cons (by simp only [Rp, Nat.zero_add]) (RpL.cons (Rp.mono p2.z _ _ (Rp.mono m _ _ r4)) RpL.nil)⟩
theorem wk_enumT {xs : List PyData} {a : Addr} {vs : List V} (z : SqT pg.K g.Z a vs) (r : RpL pg.K g.Z xs vs) : Wk pg.K g (pairs 0 xs) (Itet pg.K a) where
  go := fun i g' h' H' s m hi => by
    rw [pairs_len] at hi
    obtain ⟨v, e2, _⟩ := r.get (List.getElem?_eq_getElem hi)
    exact ⟨vs, v, sqT_mono s.sub (sqT_mono m z), e2⟩
  stop := fun g' h' H' s m => ⟨vs, sqT_mono s.sub (sqT_mono m z), by rw [pairs_len, r.length]⟩
  yld := fun i g' h' H' x H'' s m hi y => by
    obtain ⟨T, w, e0, nT, e1, y⟩ := y
    subst e0 e1
    rw [pairs_len] at hi
    obtain ⟨d, e2, e3⟩ := pairs_get xs 0 i hi
    obtain ⟨v, e4, r4⟩ := r.get e2
    have := (y vs (sqT_mono s.sub (sqT_mono m z))).symm.trans e4
    cases this
    obtain ⟨s2, p2⟩ := s.frozen nT (.tup [.int (i : Nat), w])
    refine ⟨_, _, e3, s2, p2, ?_⟩
    show Rp _ _ _ _
    simp only [Rp]
    refine ⟨T, _, rfl, .of (by show upd _ T _ T = _; rw [upd_same]), RpL.cons (by simp only [Rp, Nat.zero_add]) (RpL.cons (Rp.mono p2.z _ _ (Rp.mono m _ _ r4)) RpL.nil)⟩
theorem zips_get : ∀ (xs ys : List PyData) (i : Nat), i < (zips xs ys).length → ∃ x y, xs[i]? = some x ∧ ys[i]? = some y ∧ (zips xs ys)[i]? = some (.d (.tuple [x, y]))
  | [], _, _, h => absurd h (Nat.not_lt_zero _)
  | _ :: _, [], _, h => absurd h (Nat.not_lt_zero _)
  | x :: xs, y :: ys, 0, _ => ⟨x, y, rfl, rfl, rfl⟩
  | x :: xs, y :: ys, i + 1, h => by
    obtain ⟨u, w, e1, e2, e3⟩ := zips_get xs ys i (by simpa [zips] using h)
    exact ⟨u, w, by simpa using e1, by simpa using e2, by simpa [zips] using e3⟩
theorem zips_len : ∀ (xs ys : List PyData), xs.length ≤ (zips xs ys).length ∨ ys.length ≤ (zips xs ys).length
  | [], _ => .inl (Nat.zero_le _)
  | _ :: _, [] => .inr (Nat.zero_le _)
  | x :: xs, y :: ys => by
    rcases zips_len xs ys with h | h
    · exact .inl (Nat.succ_le_succ h)
    · exact .inr (Nat.succ_le_succ h)
theorem wk_zip {xs ys : List PyData} {a b : Addr} {vs ws : List V} (z : g.Z a = some (.lst vs)) (r : RpL pg.K g.Z xs vs) (z2 : g.Z b = some (.lst ws)) (r2 : RpL pg.K g.Z ys ws) : Wk pg.K g (zips xs ys) (Itz pg.K a b) where
  go := fun i g' h' H' s m hi => by
    obtain ⟨x, y, e1, e2, _⟩ := zips_get xs ys i hi
    obtain ⟨v, e3, _⟩ := r.get e1
    obtain ⟨w, e4, _⟩ := r2.get e2
    exact ⟨vs, ws, v, w, .of (s.sub _ _ (m _ _ z)), .of (s.sub _ _ (m _ _ z2)), e3, e4⟩
  stop := fun g' h' H' s m => ⟨vs, ws, .of (s.sub _ _ (m _ _ z)), .of (s.sub _ _ (m _ _ z2)), by rw [r.length, r2.length]; exact zips_len xs ys⟩
  yld := fun i g' h' H' x H'' s m hi y => by
    obtain ⟨T, p, q, e0, nT, e1, y1, y2⟩ := y
    subst e0 e1
    obtain ⟨d, e, e2, e3, e4⟩ := zips_get xs ys i hi
    obtain ⟨v, e5, r5⟩ := r.get e2
    obtain ⟨w, e6, r6⟩ := r2.get e3
    have t1 := (y1 vs (.of (s.sub _ _ (m _ _ z)))).symm.trans e5
    have t2 := (y2 ws (.of (s.sub _ _ (m _ _ z2)))).symm.trans e6
    cases t1; cases t2
    obtain ⟨s2, p2⟩ := s.frozen nT (.tup [p, q])
    refine ⟨_, _, e4, s2, p2, ?_⟩
    show Rp _ _ _ _
    simp only [Rp]
    exact ⟨T, _, rfl, .of (by show upd _ T _ T = _; rw [upd_same]), RpL.cons (Rp.mono p2.z _ _ (Rp.mono m _ _ r5)) (RpL.cons (Rp.mono p2.z _ _ (Rp.mono m _ _ r6)) RpL.nil)⟩

/-- what a for, a comprehension walks -/
def itR (C : Cf) (G : Nat → Option PyData) (k : Mi.It) (es : List Te) (env : En) (h : Sh) : R (List Vl) := (evEs C G es env h).bind fun xs h1 => match evIt k xs with
  | some items => .ok items h1
  | none => .no
theorem bt_nm (gx : GX X c pg tb G C n) {x : Str} (hx : x ∈ bNames) : X.mg x = none := by rw [gx.hm]; exact gx.bt x hx
theorem okEs_stars {pk : Bool} : ∀ {es : List Te} {ees : List Expr}, okEs c tb pk es ees = true → noStars ees = true
  | [], [], _ => rfl
  | e :: es, e' :: es', ok => by
    simp only [okEs, Bool.and_eq_true] at ok
    rw [noStars, Bool.and_eq_true]
    exact ⟨ok.1.2, okEs_stars ok.2⟩
  | [], _ :: _, ok => by simp [okEs] at ok
  | _ :: _, [], ok => by simp [okEs] at ok
theorem star1 {a : Expr} {env : Env} (h : noStars [a] = true) : starEach [a] env = [(false, eval a env)] := by
  rw [noStars, Bool.and_eq_true] at h
  exact star_cons h.1
theorem star2 {a b : Expr} {env : Env} (h : noStars [a, b] = true) : starEach [a, b] env = [(false, eval a env), (false, eval b env)] := by
  rw [noStars, Bool.and_eq_true] at h
  rw [star_cons h.1, star1 h.2]
theorem evIt_some {k : Mi.It} {xs items : List Vl} (e : evIt k xs = some items) :
    (k = .seq ∧ ∃ x ys, xs = [.d x] ∧ seqD x = some ys ∧ items = ys.map .d) ∨ (k = .range1 ∧ ∃ j, xs = [.d (.int j)] ∧ (-1000000 ≤ j ∧ j ≤ 1000000) ∧ items = rng 0 j.toNat) ∨
    (k = .range2 ∧ ∃ i j, xs = [.d (.int i), .d (.int j)] ∧ (-1000000 ≤ i ∧ i ≤ 1000000 ∧ -1000000 ≤ j ∧ j ≤ 1000000) ∧ items = rng i (j - i).toNat) ∨
    (k = .enum ∧ ∃ ys, (xs = [.d (.list ys)] ∨ xs = [.d (.tuple ys)]) ∧ items = pairs 0 ys) ∨ (k = .zip ∧ ∃ ys zs, xs = [.d (.list ys), .d (.list zs)] ∧ items = zips ys zs) := by
  unfold evIt at e
  split at e
  · obtain ⟨ys, e1, rfl⟩ := Option.map_eq_some_iff.mp e
    exact .inl ⟨rfl, _, ys, rfl, e1, rfl⟩
  · split at e
    · rename_i hc
      cases e
      exact .inr (.inl ⟨rfl, _, rfl, hc, rfl⟩)
    · cases e
  · split at e
    · rename_i hc
      cases e
      exact .inr (.inr (.inl ⟨rfl, _, _, rfl, hc, rfl⟩))
    · cases e
  · cases e
    exact .inr (.inr (.inr (.inl ⟨rfl, _, .inl rfl, rfl⟩)))
  · cases e
    exact .inr (.inr (.inr (.inl ⟨rfl, _, .inr rfl, rfl⟩)))
  · cases e
    exact .inr (.inr (.inr (.inr ⟨rfl, _, _, rfl, rfl⟩)))
  · cases e
theorem one_of {x : Vl} {vs : List V} (r : ArR pg.K false g H [x] vs) : ∃ v, vs = [v] ∧ VlR pg.K g x v := by
  obtain ⟨v, t, rfl, r1, r2⟩ := r
  have r2 : t = [] := r2
  subst r2
  exact ⟨v, rfl, r1⟩
theorem two_of {x y : Vl} {vs : List V} (r : ArR pg.K false g H [x, y] vs) : ∃ v u, vs = [v, u] ∧ VlR pg.K g x v ∧ VlR pg.K g y u := by
  obtain ⟨v, t, rfl, r1, u, t2, rfl, r2, r3⟩ := r
  have r3 : t2 = [] := r3
  subst r3
  exact ⟨v, u, rfl, r1, r2⟩
theorem SI.all {tg : Tg} {k : Mi.It} {es : List Te} {te it : Expr} (gx : GX X c pg tb G C n) (ok : itB c (okEs c tb false es) tg k it = true) (okt : ∃ c', tgB c' tg te = true)
    (q1 : ∀ ees, okEs c tb false es ees = true → SR pg X σ g H (ArR pg.K false) (evEs C G es env h) (wA X ees σ H))
    (q0 : ∀ e, k = .seq → okEs c tb false es [e] = true → SR pg X σ g H (fun g H xs v => ∃ x, xs = [x] ∧ VlR pg.K g x v) (evEs C G es env h) (wE X e σ H)) :
    SR pg X σ g H (fun g _ items J => Wk pg.K g items J) (itR C G k es env h) (wI X te it σ H) := by
  unfold itR
  unfold itB at ok
  have tupT : isTt tg = true → ∃ elts kk tpos, te = .Tuple elts kk tpos := fun ht => by
    obtain ⟨c', okt⟩ := okt
    cases tg with
    | t is => cases te <;> simp only [tgB] at okt <;> first | exact ⟨_, _, _, rfl⟩ | cases okt
    | _ => cases ht
  split at ok
  · rw [Bool.and_eq_true, Bool.and_eq_true] at ok
    obtain ⟨⟨ex, og⟩, oe⟩ := ok
    have ex := of_decide_eq_true ex
    subst ex
    refine SR.bind (w2 := fun vs H1 (Q : L2.It → Hp → Prop) => ∃ j : Int, vs = [V.int j] ∧ -(2 ^ 62) ≤ j ∧ j < 2 ^ 62 ∧ Q (Itr 0 j.toNat) H1) (q1 _ oe)
      (fun Q hq => wI_of (pi_range1 (gx.gl' (glB_of og).1) (bt_nm gx (by decide +kernel)) pa_w (star1 (okEs_stars oe))) hq) fun xs h1 vs H1 g1 e1 s1 p1 r1 => ?_
    cases e : evIt .range1 xs with
    | none => exact trivial
    | some items =>
      obtain ⟨_, j, rfl, hj, rfl⟩ := ((evIt_some e).resolve_left (fun z => nomatch z.1)).resolve_right (fun z => by rcases z with z | z | z <;> cases z.1)
      obtain ⟨v, rfl, r⟩ := one_of r1
      cases (show v = .int j from by simpa only [VlR, Rp] using r)
      refine fun Q hQ => ⟨j, rfl, ?_, ?_, hQ _ H1 g1 s1 Pres.refl wk_rng⟩
      · omega
      · omega
  · rw [Bool.and_eq_true, Bool.and_eq_true] at ok
    obtain ⟨⟨ex, og⟩, oe⟩ := ok
    have ex := of_decide_eq_true ex
    subst ex
    have st := star2 (env := X.env) (okEs_stars oe)
    have st1 := okEs_stars oe
    rw [noStars, Bool.and_eq_true] at st1
    refine SR.bind (w2 := fun vs H1 (Q : L2.It → Hp → Prop) => ∃ i j : Int, vs = [V.int i, V.int j] ∧ (-(2 ^ 62) ≤ i ∧ i < 2 ^ 62 ∧ -(2 ^ 62) ≤ j ∧ j < 2 ^ 62) ∧ Q (Itr i (j - i).toNat) H1) (q1 _ oe)
      (fun Q hq => wI_of (pi_range2 (gx.gl' (glB_of og).1) (bt_nm gx (by decide +kernel)) pa_w st (star1 st1.2)) hq) fun xs h1 vs H1 g1 e1 s1 p1 r1 => ?_
    cases e : evIt .range2 xs with
    | none => exact trivial
    | some items =>
      obtain ⟨i, j, rfl, hj, rfl⟩ : ∃ i j, xs = [.d (.int i), .d (.int j)] ∧ (-1000000 ≤ i ∧ i ≤ 1000000 ∧ -1000000 ≤ j ∧ j ≤ 1000000) ∧ items = rng i (j - i).toNat := by
        rcases evIt_some e with z | z | z | z | z <;> first | (cases z.1; done) | exact z.2
      obtain ⟨v, u, rfl, r, r2⟩ := two_of r1
      cases (show v = .int i from by simpa only [VlR, Rp] using r)
      cases (show u = .int j from by simpa only [VlR, Rp] using r2)
      refine fun Q hQ => ⟨i, j, rfl, ⟨?_, ?_, ?_, ?_⟩, hQ _ H1 g1 s1 Pres.refl wk_rng⟩
      · omega
      · omega
      · omega
      · omega
  · rw [Bool.and_eq_true, Bool.and_eq_true, Bool.and_eq_true] at ok
    obtain ⟨⟨⟨ex, og⟩, oe⟩, ot⟩ := ok
    have ex := of_decide_eq_true ex
    subst ex
    obtain ⟨elts, kk, tpos, rfl⟩ := tupT ot
    refine SR.bind (w2 := fun vs H1 (Q : L2.It → Hp → Prop) => (∃ a xs, vs = [V.ref a] ∧ SqL X.K H1 a xs ∧ Q (Ite X.K a) H1) ∨ (∃ a xs, vs = [V.ref a] ∧ SqT X.K H1 a xs ∧ Q (Itet X.K a) H1)) (q1 _ oe)
      (fun Q hq => wI_of (pi_enumA (gx.gl' (glB_of og).1) (bt_nm gx (by decide +kernel)) pa_w (star1 (okEs_stars oe))) hq) fun xs h1 vs H1 g1 e1 s1 p1 r1 => ?_
    cases e : evIt .enum xs with
    | none => exact trivial
    | some items =>
      obtain ⟨ys, hxs, rfl⟩ : ∃ ys, (xs = [.d (.list ys)] ∨ xs = [.d (.tuple ys)]) ∧ items = pairs 0 ys := by
        rcases evIt_some e with z | z | z | z | z <;> first | (cases z.1; done) | exact z.2
      rcases hxs with rfl | rfl
      · obtain ⟨v, rfl, r⟩ := one_of r1
        simp only [VlR, Rp] at r
        obtain ⟨a, ws, rfl, hz, rl⟩ := r
        exact fun Q hQ => .inl ⟨a, ws, rfl, .of (s1.sub _ _ hz), hQ _ H1 g1 s1 Pres.refl (gx.hK ▸ wk_enum hz rl)⟩
      · obtain ⟨v, rfl, r⟩ := one_of r1
        simp only [VlR, Rp] at r
        obtain ⟨a, ws, rfl, hz, rl⟩ := r
        exact fun Q hQ => .inr ⟨a, ws, rfl, gx.hK ▸ sqT_mono s1.sub hz, hQ _ H1 g1 s1 Pres.refl (gx.hK ▸ wk_enumT hz rl)⟩
  · rw [Bool.and_eq_true, Bool.and_eq_true, Bool.and_eq_true] at ok
    obtain ⟨⟨⟨ex, og⟩, oe⟩, ot⟩ := ok
    have ex := of_decide_eq_true ex
    subst ex
    obtain ⟨elts, kk, tpos, rfl⟩ := tupT ot
    have st1 := okEs_stars oe
    rw [noStars, Bool.and_eq_true] at st1
    refine SR.bind (w2 := fun vs H1 (Q : L2.It → Hp → Prop) => ∃ a b xs ys, vs = [V.ref a, V.ref b] ∧ SqL X.K H1 a xs ∧ SqL X.K H1 b ys ∧ Q (Itz X.K a b) H1) (q1 _ oe)
      (fun Q hq => wI_of (pi_zip (gx.gl' (glB_of og).1) (bt_nm gx (by decide +kernel)) pa_w (star_cons st1.1) (star_any st1.2)) hq) fun xs h1 vs H1 g1 e1 s1 p1 r1 => ?_
    cases e : evIt .zip xs with
    | none => exact trivial
    | some items =>
      obtain ⟨ys, zs, rfl, rfl⟩ : ∃ ys zs, xs = [.d (.list ys), .d (.list zs)] ∧ items = zips ys zs := by
        rcases evIt_some e with z | z | z | z | z <;> first | (cases z.1; done) | exact z.2
      obtain ⟨v, u, rfl, r, r2⟩ := two_of r1
      simp only [VlR, Rp] at r r2
      obtain ⟨a, ws, rfl, hz, rl⟩ := r
      obtain ⟨b, ws2, rfl, hz2, rl2⟩ := r2
      exact fun Q hQ => ⟨a, b, ws, ws2, rfl, .of (s1.sub _ _ hz), .of (s1.sub _ _ hz2), hQ _ H1 g1 s1 Pres.refl (gx.hK ▸ wk_zip hz rl hz2 rl2)⟩
  · rw [Bool.and_eq_true] at ok
    obtain ⟨oe, os⟩ := ok
    refine SR.bind (w2 := fun v H1 (Q : L2.It → Hp → Prop) => (∃ a, v = V.ref a ∧ (((∃ xs, SqL X.K H1 a xs) ∧ Q (Itl X.K a) H1) ∨ ((∃ xs, SqT X.K H1 a xs) ∧ Q (Itt X.K a) H1))) ∨ ∃ t, v = V.str t ∧ Q (Its t) H1) (q0 _ rfl oe)
      (fun Q hq => wI_of (pi_seq pe_w) hq) fun xs h1 v H1 g1 e1 s1 p1 r1 => ?_
    obtain ⟨x, rfl, r⟩ := r1
    cases e : evIt .seq [x] with
    | none => exact trivial
    | some items =>
      obtain ⟨d, ys, ex, e2, rfl⟩ : ∃ d ys, [x] = [.d d] ∧ seqD d = some ys ∧ items = ys.map .d := by
        rcases evIt_some e with z | z | z | z | z <;> first | (cases z.1; done) | exact z.2
      cases ex
      unfold seqD at e2
      split at e2
      · cases e2
        simp only [VlR, Rp] at r
        obtain ⟨a, ws, rfl, hz, rl⟩ := r
        exact fun Q hQ => .inl ⟨a, rfl, .inr ⟨⟨ws, gx.hK ▸ sqT_mono s1.sub hz⟩, hQ _ H1 g1 s1 Pres.refl (gx.hK ▸ wk_tup hz rl)⟩⟩
      · cases e2
        simp only [VlR, Rp] at r
        obtain ⟨a, ws, rfl, hz, rl⟩ := r
        exact fun Q hQ => .inl ⟨a, rfl, .inl ⟨⟨ws, .of (s1.sub _ _ hz)⟩, hQ _ H1 g1 s1 Pres.refl (gx.hK ▸ wk_list hz rl)⟩⟩
      · cases e2
        simp only [VlR, Rp] at r
        subst r
        exact fun Q hQ => .inr ⟨_, rfl, hQ _ H1 g1 s1 Pres.refl wk_str⟩
      · cases e2
  · cases ok
end
end Mi
/-! Mi: comprehensions; all expressions. -/
namespace Mi
open PySem PySem.Spec PyProof.Rows L2
section
variable {pg : Pg} {tb : Tb} {G : Nat → Option PyData} {C : Cf} {n : Nat} {X : Cx} {c : Cd} {g : Gh} {H : Hp} {σ : Sg} {h : Sh} {env : En}

theorem EnR.unset {K : PySem.W.Frag} (r : EnR K g H env σ) {i : Nat} {o : Option V} : EnR K g H (env.set i .no) (σ.set i o) := by
  refine ⟨by rw [List.length_set, List.length_set]; exact r.len, fun j s e => ?_, fun j k xs ys a e1 e2 e3 e4 => ?_⟩
  · by_cases hj : j = i
    · subst hj
      have hl : j < env.length := by
        have := (List.getElem?_eq_some_iff.mp e).1
        rw [List.length_set] at this
        exact this
      rw [List.getElem?_set_self hl] at e
      cases e
      exact ⟨o, by rw [List.getElem?_set_self (by rw [← r.len]; exact hl)], trivial⟩
    · rw [List.getElem?_set_ne (Ne.symm hj)] at e
      obtain ⟨u, q1, q2⟩ := r.at_ j s e
      exact ⟨u, by rw [List.getElem?_set_ne (Ne.symm hj)]; exact q1, q2⟩
  · have key : ∀ {j : Nat} {xs : List PyData}, (env.set i .no)[j]? = some (.own xs) → j ≠ i := fun {j xs} e z => by
      subst z
      have hl : j < env.length := by
        have := (List.getElem?_eq_some_iff.mp e).1
        rw [List.length_set] at this
        exact this
      rw [List.getElem?_set_self hl] at e
      cases e
    have hj := key e1
    have hk := key e2
    rw [List.getElem?_set_ne (Ne.symm hj)] at e1 e3
    rw [List.getElem?_set_ne (Ne.symm hk)] at e2 e4
    exact r.dist j k xs ys a e1 e2 e3 e4
theorem EnR.wipe {K : PySem.W.Frag} (r : EnR K g H env σ) : ∀ ws : List Nat, EnR K g H (wipeE ws env) (L2.wipe σ ws)
  | [] => r
  | w :: ws => (EnR.wipe r ws).unset
theorem wipe_wipe (σ : Sg) : ∀ ws vs : List Nat, (∀ i ∈ vs, i ∈ ws) → L2.wipe (L2.wipe σ vs) ws = L2.wipe σ ws
  | ws, [], _ => rfl
  | ws, v :: vs, m => by
    show L2.wipe ((L2.wipe σ vs).set v none) ws = _
    rw [bindIs_ok.wipe_set (m v List.mem_cons_self), wipe_wipe σ ws vs fun i hi => m i (List.mem_cons_of_mem _ hi)]
/-- a list that stands apart is changed -/
theorem Sim.apart (s : Sim pg.K g h H) {a : Addr} (z : g.Z a = none) (ni : a ∉ g.ι) (o : HO) : Sim pg.K g h (upd H a o) := by
  refine ⟨fun b u e => ?_, s.nd, s.len, s.out, fun k u e => ?_⟩
  · rw [upd_ne (fun y => by rw [y, z] at e; cases e)]
    exact s.sub _ _ e
  · obtain ⟨b, e1, r⟩ := s.obj k u e
    refine ⟨b, e1, ?_⟩
    have hb : b ≠ a := fun y => ni (y ▸ List.mem_of_getElem? e1)
    cases u with
    | lst xs =>
      obtain ⟨vs, q, r⟩ := r
      exact ⟨vs, by rw [upd_ne hb]; exact q, r⟩
theorem Pres.apart {g0 : Gh} {H0 : Hp} (p : Pres g0 H0 g H) {a : Addr} (n0 : H0 a = none) (o : HO) : Pres g0 H0 g (upd H a o) := by
  refine ⟨p.z, p.i, fun b u e nb => ?_⟩
  obtain ⟨k1, k2, k3⟩ := p.k b u e nb
  exact ⟨by rw [upd_ne (fun y => by rw [y, n0] at e; cases e)]; exact k1, k2, k3⟩

theorem noEx_ok {α : Type} {r : R α} {a : α} {h' : Sh} (e : noEx r = .ok a h') : r = .ok a h' := by
  cases r <;> simp [noEx] at e ⊢ <;> first | exact e | cases e
theorem bind_ok {α β : Type} {r : R α} {f : α → Sh → R β} {b : β} {h' : Sh} (e : r.bind f = .ok b h') : ∃ a h1, r = .ok a h1 ∧ f a h1 = .ok b h' := by
  cases r with
  | ok a h1 => exact ⟨a, h1, rfl, e⟩
  | ex _ _ => cases e
  | no => cases e
theorem compLoop_noEx {tg : Tg} {cond : En → Sh → R Bool} {elt : En → Sh → R Vl} {env : En} : ∀ (xs : List Vl) (h : Sh) (x : Er) (h' : Sh), compLoop tg cond elt env xs h ≠ .ex x h'
  | [], _, _, _ => fun e => by rw [compLoop] at e; cases e
  | y :: xs, h, x, h' => fun e => by
    rw [compLoop] at e
    split at e
    · cases e
    · rename_i env' _
      cases q : noEx (cond env' h) with
      | no => rw [q] at e; cases e
      | ex _ _ => cases q2 : cond env' h <;> rw [q2] at q <;> cases q
      | ok b h1 =>
        rw [q] at e
        simp only [R.bind] at e
        split at e
        · cases q2 : noEx (elt env' h1) with
          | no => rw [q2] at e; cases e
          | ex _ _ => cases q3 : elt env' h1 <;> rw [q3] at q2 <;> cases q2
          | ok z h2 =>
            rw [q2] at e
            cases z with
            | d z =>
              simp only at e
              cases q4 : compLoop tg cond elt env xs h2 with
              | ok _ _ => rw [q4] at e; cases e
              | no => rw [q4] at e; cases e
              | ex x2 h3 => exact compLoop_noEx xs h2 x2 h3 q4
            | _ => cases e
        · exact compLoop_noEx xs h1 x h' e

/-- a block's context -/
theorem GX.blk (gx : GX X c pg tb G C n) {scope : Scope} (kd : scope.kind = .function) (s0 : Shared) (H0 : Hp) (C0 : Addr) (cl : List (Str × Addr)) (fp : List Addr) :
    GX (X.blk s0 H0 scope (compEnvC scope cl C0 X.env) fp) (cdC c scope) pg tb G C n :=
  ⟨gx.hP, gx.hw, gx.hK, gx.hm, gx.hb, gx.N, gx.nd, by rw [cdC, ← gx.sc]; rfl, kd, rfl, gx.calm, PassesOwn.never, gx.room, gx.gd, gx.gl, gx.bt, gx.ct, gx.cl⟩
def wCs (X : Cx) (ifs : List Expr) (σ : Sg) (H : Hp) (Q : Bool → Hp → Prop) : Prop := ∀ (pins : List (Addr × Obj)) (s : Shared), Inv X pins σ H s →
  wpAny (model X.prog X.w) X.A (forIn ifs true fun c r => if r = true then do let ok ← isTrue c X.env (eval c X.env); pure (ForInStep.yield ok) else pure (ForInStep.yield r)) (TP X pins σ Q) X.xe s
theorem SL.compT {elt : Te} {tg : Tg} {k : Mi.It} {es cs : List Te} {elt' tg' it' : Expr} {ifs' : List Expr} {scope : Scope} {pos : Pos} (gx : GX X c pg tb G C n) (bk : blkC c.N c.sc scope (tgOwn tg tg') = true) (ot : tgB (cdC c scope) tg tg' = true)
    (on : (tgOwn tg tg').map (·.2) = tg.names) (ns : noSet it' = true) (s : Sim pg.K g h H) (en : EnR pg.K g H env σ)
    (q1 : SR pg X σ g H (fun g _ items J => Wk pg.K g items J) (itR C G k es env h) (wI X tg' it' σ H))
    (qc : ∀ X', GX X' (cdC c scope) pg tb G C n → ∀ env h σ g H, Sim pg.K g h H → EnR pg.K g H env σ → SR pg X' σ g H (fun _ _ (a b : Bool) => a = b) (evC C G cs env h) (wCs X' ifs' σ H))
    (qe : ∀ X', GX X' (cdC c scope) pg tb G C n → ∀ env h σ g H, Sim pg.K g h H → EnR pg.K g H env σ → SR pg X' σ g H (VlRel pg.K) (evE C G elt env h) (wE X' elt' σ H)) :
    SR pg X σ g H (NwR pg.K H) (evL C G (.comp elt tg k es cs) env h) (tLc (wI X tg' it') (gOf pg.K tg) (fun σ H Q => ∀ s0 H0 C0 cl fp, wCs (X.blk s0 H0 scope (compEnvC scope cl C0 X.env) fp) ifs' σ H Q) (fun σ H Q => ∀ s0 H0 C0 cl fp, wE (X.blk s0 H0 scope (compEnvC scope cl C0 X.env) fp) elt' σ H Q) tg.names σ H) := by
  have e0 : evL C G (.comp elt tg k es cs) env h = (itR C G k es env h).bind fun items h1 => if items.length ≤ SZ then compLoop tg (evC C G cs) (evE C G elt) (wipeE tg.names env) items h1 else .no := by
    rw [evL]
    unfold itR
    cases evEs C G es env h with
    | no => rfl
    | ex _ _ => rfl
    | ok xs h1 =>
      show (match evIt k xs with | some items => _ | none => _) = R.bind (match evIt k xs with | some items => _ | none => _) _
      cases evIt k xs <;> rfl
  rw [e0]
  have blk := blkOk_by bk
  have nst : (∃ is r, tg = .st is r) → False := fun ⟨is, r, e⟩ => by subst e; cases tg' <;> cases ot
  cases q : itR C G k es env h with
  | no => exact trivial
  | ex x h' =>
    rw [q] at q1
    exact fun W tk hW Q => q1 W tk hW _
  | ok items h1 =>
    rw [q] at q1
    show SR pg X σ g H (NwR pg.K H) (if items.length ≤ SZ then compLoop tg (evC C G cs) (evE C G elt) (wipeE tg.names env) items h1 else .no) _
    split
    · rename_i hsz
      cases ql : compLoop tg (evC C G cs) (evE C G elt) (wipeE tg.names env) items h1 with
      | no => exact trivial
      | ex x h' => exact (compLoop_noEx _ _ _ _ ql).elim
      | ok ys h' =>
        refine fun Q hQ => q1 _ fun J H1 g1 s1 p1 wk D nD => ?_
        obtain ⟨s2, p2, zD, iD⟩ := s1.loose nD (.lst [])
        refine ⟨fun i m Hc => m = items.length - i ∧ i ≤ items.length ∧ ∃ gc hc done vs rest, Sim pg.K gc hc Hc ∧ Pres g1 H1 gc Hc ∧ gc.Z D = none ∧ D ∉ gc.ι ∧ Hc D = some (.lst vs) ∧ RpL pg.K gc.Z done vs ∧
          compLoop tg (evC C G cs) (evE C G elt) (wipeE tg.names env) (items.drop i) hc = .ok rest h' ∧ done ++ rest = ys ∧ vs.length ≤ i,
          ⟨items.length, by omega, Nat.zero_le _, g1, h1, [], [], ys, s2, p2, zD, iD, upd_same, RpL.nil, ql, rfl, Nat.le_refl _⟩, ?_⟩
        rintro i m Hc ⟨rfl, hi, gc, hc, done, vs, rest, sc, pc, zc, ic, eD, rl, el, ey, hv⟩
        by_cases hlt : i < items.length
        · refine .inr ⟨wk.go i gc hc Hc sc pc.z hlt, fun H' => ∃ gc hc done vs rest, Sim pg.K gc hc H' ∧ Pres g1 H1 gc H' ∧ gc.Z D = none ∧ D ∉ gc.ι ∧ H' D = some (.lst vs) ∧ RpL pg.K gc.Z done vs ∧
            compLoop tg (evC C G cs) (evE C G elt) (wipeE tg.names env) (items.drop (i + 1)) hc = .ok rest h' ∧ done ++ rest = ys ∧ vs.length ≤ i + 1,
            fun H' hN => ⟨items.length - (i + 1), by omega, rfl, hlt, hN⟩, fun x' H' y => ?_⟩
          obtain ⟨g', y', ei, s', p', ry⟩ := wk.yld i gc hc Hc x' H' sc pc.z hlt y
          obtain ⟨kD, niD, zD'⟩ := p'.k D _ eD ic
          have zD' := zD' zc
          have edrop : items.drop i = y' :: items.drop (i + 1) := by
            rw [List.drop_eq_getElem_cons hlt]
            have := List.getElem?_eq_getElem hlt
            rw [ei] at this
            cases this
            rfl
          rw [edrop, compLoop] at el
          cases eb : bindTg tg y' (wipeE tg.names env) with
          | none => rw [eb] at el; cases el
          | some env' =>
            rw [eb] at el
            obtain ⟨b, h2, ec, el⟩ := bind_ok el
            have ec := noEx_ok ec
            have pall := pc.trans p'
            have enw : EnR pg.K g' H' (wipeE tg.names env) (L2.wipe σ tg.names) := (en.mono (p1.trans pall)).wipe _
            refine tg_ok nst eb s' ry enw fun σ' en' wp => ⟨?_, ?_⟩
            · rw [wp _ fun _ m => m, wipe_wipe _ _ _ fun _ m => m]
            · intro s0 H0 C0 cl fp
              have qc' := qc _ (gx.blk blk.kind s0 H0 C0 cl fp) env' hc σ' g' H' s' en'
              rw [ec] at qc'
              refine qc' _ fun b' H3 g3 s3 p3 rb => ?_
              subst rb
              obtain ⟨k3, n3, z3⟩ := p3.k D _ kD niD
              have z3 := z3 zD'
              cases b with
              | false =>
                rw [if_neg (by decide)]
                rw [if_neg (by decide)] at el
                exact ⟨g3, h2, done, vs, rest, s3, pall.trans p3, z3, n3, k3, RpL.mono (p'.trans p3).z _ _ rl, el, ey, by omega⟩
              | true =>
                rw [if_pos rfl] at el ⊢
                obtain ⟨z, h3, ee, el⟩ := bind_ok el
                have ee := noEx_ok ee
                cases z with
                | d z =>
                  obtain ⟨zs, h4, ef, el⟩ := bind_ok el
                  cases el
                  intro s0 H0 C0 cl fp
                  have qe' := qe _ (gx.blk blk.kind s0 H0 C0 cl fp) env' h2 σ' g3 H3 s3 (en'.mono p3)
                  rw [ee] at qe'
                  refine qe' _ fun v H4 g4 s4 p4 rv => ?_
                  obtain ⟨k4, n4, z4⟩ := p4.k D _ k3 n3
                  have z4 := z4 z3
                  refine ⟨vs, k4, by rw [← szL]; omega, g4, h3, done ++ [z], vs ++ [v], zs, s4.apart z4 n4 _, ((pall.trans p3).trans p4).apart nD _, z4, n4, upd_same, ?_, ef, by rw [List.append_assoc]; exact ey, by rw [List.length_append, List.length_singleton]; omega⟩
                  exact (RpL.mono ((p'.trans p3).trans p4).z _ _ rl).append (RpL.cons rv RpL.nil)
                | _ => cases el
        · have ei : i = items.length := by omega
          subst ei
          refine .inl ⟨wk.stop gc hc Hc sc pc.z, ?_⟩
          rw [List.drop_length, compLoop] at el
          cases el
          rw [List.append_nil] at ey
          subst ey
          refine hQ _ Hc gc sc (p1.trans pc) ⟨D, vs, rfl, eD, zc, ic, rl, ?_⟩
          cases n0 : H D with
          | none => rfl
          | some u =>
            by_cases mD : D ∈ g.ι
            · obtain ⟨t, et⟩ := (p1.trans pc).i
              exact (ic (by rw [et]; exact List.mem_append_left _ mD)).elim
            · have := (p1.k D u n0 mD).1
              rw [nD] at this; cases this
    · exact trivial
theorem SL.comp {elt : Te} {tg : Tg} {k : Mi.It} {es cs : List Te} {elt' tg' it' : Expr} {ifs' : List Expr} {scope : Scope} {pos : Pos} (gx : GX X c pg tb G C n) (bk : blkC c.N c.sc scope (tgOwn tg tg') = true) (ot : tgB (cdC c scope) tg tg' = true)
    (on : (tgOwn tg tg').map (·.2) = tg.names) (ns : noSet it' = true) (s : Sim pg.K g h H) (en : EnR pg.K g H env σ)
    (q1 : SR pg X σ g H (fun g _ items J => Wk pg.K g items J) (itR C G k es env h) (wI X tg' it' σ H))
    (qc : ∀ X', GX X' (cdC c scope) pg tb G C n → ∀ env h σ g H, Sim pg.K g h H → EnR pg.K g H env σ → SR pg X' σ g H (fun _ _ (a b : Bool) => a = b) (evC C G cs env h) (wCs X' ifs' σ H))
    (qe : ∀ X', GX X' (cdC c scope) pg tb G C n → ∀ env h σ g H, Sim pg.K g h H → EnR pg.K g H env σ → SR pg X' σ g H (VlRel pg.K) (evE C G elt env h) (wE X' elt' σ H)) :
    SR pg X σ g H (NwR pg.K H) (evL C G (.comp elt tg k es cs) env h) (wE X (.ListComp elt' [⟨tg', it', ifs', 0⟩] scope pos) σ H) := by
  have blk := blkOk_by bk
  have rule := pe_lc (X := X) (pos := pos) (elt := elt') (tg := tg') (iter := it') (ifs := ifs') (g := gOf pg.K tg)
    (tt := fun σ H Q => ∀ s0 H0 C0 cl fp, wCs (X.blk s0 H0 scope (compEnvC scope cl C0 X.env) fp) ifs' σ H Q) (te := fun σ H Q => ∀ s0 H0 C0 cl fp, wE (X.blk s0 H0 scope (compEnvC scope cl C0 X.env) fp) elt' σ H Q)
    gx.calm (by rw [gx.N]; exact gx.nd) pi_w (by rw [gx.N, gx.sc]; exact blk) (fun s0 H0 C0 cl fp => pg_of (gx.blk blk.kind s0 H0 C0 cl fp) ot) (fun s0 H0 C0 cl fp => ⟨fun pins s σ H Q I q => q s0 H0 C0 cl fp pins s I⟩)
    (fun s0 H0 C0 cl fp => ⟨fun pins s σ H Q I q => q s0 H0 C0 cl fp pins s I⟩) (folded_of ns)
  rw [on] at rule
  exact (SL.compT (pos := pos) gx bk ot on ns s en q1 qc qe).imp fun Q hq => wE_of rule hq
end
end Mi
/-! Mi: all expressions. -/
namespace Mi
open PySem PySem.Spec PyProof.Rows L2

/-! ### x[::-1] -/
section
variable {prog : Program} {w : World} {A : Around} {E : Value → Shared → Prop} {s : Shared}
theorem adjust_rev (n : Nat) : Builtin.Slice.sliceAdjust none none (-1) (n : Int) = ((n : Int) - 1, -1) := rfl
theorem places_rev (n : Nat) : Builtin.Slice.slicePlaces ((n : Int) - 1) (-1) (-1) = n := by
  unfold Builtin.Slice.slicePlaces
  have h1 : ¬ ((-1 : Int) > 0) := by omega
  simp only [h1, if_false]
  split
  · have : (- -1 : Int) = 1 := rfl
    rw [this, Int.ediv_one]
    omega
  · omega
theorem fm_congr {α β : Type} {f g : α → Option β} : ∀ {l : List α}, (∀ x ∈ l, f x = g x) → l.filterMap f = l.filterMap g
  | [], _ => rfl
  | a :: l, h => by rw [List.filterMap_cons, List.filterMap_cons, h a List.mem_cons_self, fm_congr fun x hx => h x (List.mem_cons_of_mem _ hx)]
theorem pick_rev (xs : Array Value) : ((List.range xs.size).filterMap fun (m : Nat) => xs[((xs.size : Int) - 1 + (m : Int) * -1).toNat]?) = xs.toList.reverse := by
  apply List.ext_getElem?
  intro i
  have key : ∀ k, k ≤ xs.size → (List.range k).filterMap (fun (m : Nat) => xs[((xs.size : Int) - 1 + (m : Int) * -1).toNat]?) = (List.range k).filterMap fun m => xs.toList.reverse[m]? := by
    intro k hk
    refine fm_congr fun m hm => ?_
    have hm := List.mem_range.mp hm
    have e : ((xs.size : Int) - 1 + (m : Int) * -1).toNat = xs.size - 1 - m := by omega
    rw [e, List.getElem?_reverse (by simpa using Nat.lt_of_lt_of_le hm hk)]
    simp
  rw [key _ (Nat.le_refl _)]
  have : ∀ (l : List Value), (List.range l.length).filterMap (fun m => l[m]?) = l := by
    intro l
    induction l with
    | nil => rfl
    | cons a t ih =>
      rw [List.length_cons, List.range_succ_eq_map, List.filterMap_cons]
      simp only [List.getElem?_cons_zero]
      rw [List.filterMap_map]
      congr 1
  have h2 := this xs.toList.reverse
  rw [List.length_reverse, Array.length_toList] at h2
  rw [h2]
theorem getItem_tuple_rev {t sl : Addr} {items : Array Value} {vl vu vs : Value} {Q : Value → Shared → Prop} (ht : IsTup s.heap t items) (hs : s.heap.IsSliceOf sl vl vu vs) (pl : IsPart vl none) (pu : IsPart vu none) (ps : IsPart vs (some (-1)))
    (h : Q (.ref s.heap.objs.size) { s with heap := s.heap.push { cls := .type "tuple", data := .seq items.toList.reverse.toArray } })
    (hsz : items.size ≤ sizeLine) : wpAny (model prog w) A (getItem (.ref t) (.ref sl)) Q E s := by
  have htake : sizeOk (.seq items.toList.reverse.toArray) := by
    show items.toList.reverse.toArray.size ≤ sizeLine
    rw [List.size_toArray, List.length_reverse, Array.length_toList]
    exact hsz
  obtain ⟨os, hos, hcs, hds⟩ := id hs
  have hTs : s.TypeIs (.ref sl) "slice" := ⟨os, hos, hcs⟩
  unfold getItem
  try with_reducible refine wpAny_holding ?_
  first | refine wpAny_bind (wpAny_pure ?_) | skip
  refine wpAny_bind (wpAny_sequenceKey ht.typeIs (by decide) ?_)
  refine wpAny_bind (wpAny_callSpecial?_slot (name := Str.ofString "__getitem__") ht.typeIs PyProof.Rows.slot_tuple_getitem
    (wpAny_call_entry PyProof.Rows.slot_tuple_getitem ht.typeIs entry_tuple_getitem ?_ (args_tuple_getitem _ _)))
  show wpAny _ _ (Builtin.Tuple.tupleItemsOf (.ref t) >>= _) _ _ s
  refine wpAny_bind (tupleItemsOf_ ht ?_)
  refine wpAny_bind (wpAny_typeOf hTs ?_)
  rw [if_pos (by decide)]
  refine wpAny_bind (show wpAny _ _ (Builtin.Slice.sliceApplied (.ref sl) (pure (items.size : Int))) _ _ s from ?_)
  unfold Builtin.Slice.sliceApplied Builtin.Slice.sliceFields
  refine wpAny_bind (wpAny_bind (wpAny_field hos hds (x := vl) rfl (wpAny_bind (wpAny_field hos hds (x := vu) rfl (wpAny_bind (wpAny_field hos hds (x := vs) rfl (wpAny_pure ?_)))))))
  refine wpAny_bind (HT.slicePart_ ps ?_)
  show wpAny _ _ (if ((-1 : Int) == 0) = true then _ else _) _ _ s
  rw [if_neg (by decide)]
  refine wpAny_bind (HT.slicePart_ pl (wpAny_bind (HT.slicePart_ pu (wpAny_bind (wpAny_pure ?_)))))
  show wpAny _ _ (match Builtin.Slice.sliceAdjust none none (-1) (items.size : Int) with | (lo, hi) => pure (lo, (-1 : Int), Builtin.Slice.slicePlaces lo hi (-1))) _ _ s
  rw [adjust_rev]
  show wpAny _ _ (pure ((items.size : Int) - 1, (-1 : Int), Builtin.Slice.slicePlaces ((items.size : Int) - 1) (-1) (-1))) _ _ s
  rw [places_rev]
  refine wpAny_pure ?_
  have hno : ¬ ((((items.size : Int) - 1) == 0 && (-1 : Int) == 1 && items.size == items.size) = true) := by
    intro q
    rw [Bool.and_eq_true, Bool.and_eq_true] at q
    exact absurd q.1.2 (by decide)
  show wpAny _ _ (if (((items.size : Int) - 1) == 0 && (-1 : Int) == 1 && items.size == items.size) = true then _ else _) _ _ s
  rw [if_neg hno, pick_rev]
  first
    | exact wpAny_bind (m := Builtin.Tuple.tupleExact _) (wpAny_newObj_type (wpAny_pure ⟨_, rfl, wpAny_pure h⟩) htake)
    | exact wpAny_bind (m := Builtin.Tuple.tupleExact _) (wpAny_newObj_type (wpAny_bind (wpAny_pure (wpAny_pure ⟨_, rfl, wpAny_pure h⟩))) htake)
    | exact wpAny_bind (wpAny_bind (m := Builtin.Tuple.tupleExact _) (wpAny_newObj_type (wpAny_pure (wpAny_pure ⟨_, rfl, wpAny_pure h⟩)) htake))
    | exact wpAny_bind (wpAny_bind (m := Builtin.Tuple.tupleExact _) (wpAny_newObj_type (wpAny_pure ⟨_, rfl, wpAny_pure h⟩) htake))
end
def tRevT (K : PySem.W.Frag) (te : TE) : TE := fun σ H Q => te σ H fun x H1 => ∃ a xs, x = .ref a ∧ SqT K H1 a xs ∧ ∀ p, H1 p = none → Q (.ref p) (upd H1 p (.tup xs.reverse))
theorem pe_revT {X : Cx} {e : Expr} {te : TE} {k : Nat} {p1 p2 p3 pos : Pos} (he : PE X e te) : PE X (.Subscript e (.Slice none none (some (.UnaryOp .USub (.Constant (.int 1) k p1) p2)) p3) pos) (tRevT X.K te) := by
  refine ⟨fun pins s σ H Q I h => ?_⟩
  refine Subscript_ (thn (he.run pins s σ H _ I h) fun v s1 ⟨x, H1, I1, r1, q1⟩ => ?_)
  obtain ⟨a, xs, ex, hx, q⟩ := q1
  subst ex
  cases r1
  have hst : PO X (some (.UnaryOp .USub (.Constant (.int 1) k p1) p2)) (tPart (tUn (rU fun i => .int (-i)) (tC (.int 1)))) := po_some (pe_un un_neg pe_int)
  refine wpAny_Slice (thn (po_none.run pins s1 σ H1 (fun o H2 => o = none ∧ H2 = H1) I1 ⟨rfl, rfl⟩) fun vl s2 ⟨l, H2, I2, pl, el, e2⟩ => ?_)
  subst el e2
  refine thn (po_none.run pins s2 σ H2 (fun o H3 => o = none ∧ H3 = H2) I2 ⟨rfl, rfl⟩) fun vu s3 ⟨u, H3, I3, pu, eu, e3⟩ => ?_
  subst eu e3
  refine thn (hst.run pins s3 σ H3 (fun o H4 => o = some (-1) ∧ H4 = H3) I3 ⟨1, rfl, -1, rfl, rfl, rfl⟩) fun vs s4 ⟨o, H4, I4, ps, eo, e4⟩ => ?_
  subst eo e4
  have I5 : Inv X pins σ H4 { s4 with heap := s4.heap.push { cls := .type "slice", data := .fields #[vl, vu, vs] } } := I4.kept (t' := s4.toks) fun b ob q => Heap.get?_push_of_some _ q
  obtain ⟨its, r, ht, hz⟩ := I5.tuple hx
  have hlen := r.length
  show wpAny (model X.prog X.w) X.A (subscriptTail e (.Slice none none (some (.UnaryOp .USub (.Constant (.int 1) k p1) p2)) p3) (.ref a) (.ref s4.heap.objs.size)) (EP X pins σ Q) X.xe { s4 with heap := s4.heap.push { cls := .type "slice", data := .fields #[vl, vu, vs] } }
  refine tail_any (ops := [.ref a, .ref s4.heap.objs.size]) ht.typeIs (PyProof.Rows.slot_tuple_getitem.lookup) ?_ (by with_unfolding_all rfl)
  refine getItem_tuple_rev ht (Heap.IsSliceOf.new _ vl vu vs) pl pu ps ?_ (by rw [List.size_toArray]; omega)
  refine ⟨.ref _, _, I5.laid (t' := s4.toks) (o := .tup xs.reverse) (fun b ob q => Heap.get?_push_of_some _ q) (Nat.le_refl _) ?_, rfl, q _ (I5.hok.fresh (Nat.le_refl _))⟩
  exact ⟨by rw [List.length_reverse]; exact hz, _, r.reverse, IsTup.new _ _⟩

section
variable {pg : Pg} {tb : Tb} {G : Nat → Option PyData} {C : Cf} {n : Nat} {X : Cx} {c : Cd} {g : Gh} {H : Hp} {σ : Sg} {h : Sh} {env : En}
theorem SE.rev {a : Te} {ea : Expr} {j : Nat} {p1 p2 p3 pos : Pos} {Ra : Gh → Hp → Vl → V → Prop} (gx : GX X c pg tb G C n) (ha : ∀ g H x v, Ra g H x v → PkR pg.K g H x v)
    (q1 : SR pg X σ g H Ra (evE C G a env h) (wE X ea σ H)) :
    SR pg X σ g H (VlRel pg.K) (evE C G (.rev a) env h) (wE X (.Subscript ea (.Slice none none (some (.UnaryOp .USub (.Constant (.int 1) j p1) p2)) p3) pos) σ H) := by
  rw [evE]
  refine SR.bind (w2 := fun x H1 (Q : VK) => (∃ a xs, x = .ref a ∧ SqL X.K H1 a xs ∧ ∀ p, H1 p = none → Q (.ref p) (upd H1 p (.lst xs.reverse))) ∨ (∃ a xs, x = .ref a ∧ SqT X.K H1 a xs ∧ ∀ p, H1 p = none → Q (.ref p) (upd H1 p (.tup xs.reverse))) ∨ (∃ a, x = .str a ∧ a.length ≤ sizeLine ∧ Q (.str ⟨a.cps.toList.reverse.toArray⟩) H1)) q1 (fun Q hq => ?_) fun x h1 v H1 g1 _ s1 p1 r1 => ?_
  · intro pins s I
    have both : PE X (.Subscript ea (.Slice none none (some (.UnaryOp .USub (.Constant (.int 1) j p1) p2)) p3) pos) (fun σ H Q => wE X ea σ H fun x H1 => (∃ a xs, x = .ref a ∧ SqL X.K H1 a xs ∧ ∀ p, H1 p = none → Q (.ref p) (upd H1 p (.lst xs.reverse))) ∨ (∃ a xs, x = .ref a ∧ SqT X.K H1 a xs ∧ ∀ p, H1 p = none → Q (.ref p) (upd H1 p (.tup xs.reverse))) ∨ (∃ a, x = .str a ∧ a.length ≤ sizeLine ∧ Q (.str ⟨a.cps.toList.reverse.toArray⟩) H1)) := by
      refine ⟨fun pins s σ H Q I h => ?_⟩
      -- run the operand, then whichever rule fits
      refine Subscript_ (thn (h pins s I) fun v s1 ⟨x, H1, I1, r1, q1⟩ => ?_)
      rcases q1 with q1 | q1 | q1
      rotate_left 2
      · obtain ⟨a, ex, hx, q⟩ := q1
        subst ex
        obtain ⟨t, rfl⟩ := r1
        have hst : PO X (some (.UnaryOp .USub (.Constant (.int 1) j p1) p2)) (tPart (tUn (rU fun i => .int (-i)) (tC (.int 1)))) := po_some (pe_un un_neg pe_int)
        refine wpAny_Slice (thn (po_none.run pins s1 σ H1 (fun o H2 => o = none ∧ H2 = H1) I1 ⟨rfl, rfl⟩) fun vl s2 ⟨l, H2, I2, pl, el, e2⟩ => ?_)
        subst el e2
        refine thn (po_none.run pins s2 σ H2 (fun o H3 => o = none ∧ H3 = H2) I2 ⟨rfl, rfl⟩) fun vu s3 ⟨u, H3, I3, pu, eu, e3⟩ => ?_
        subst eu e3
        refine thn (hst.run pins s3 σ H3 (fun o H4 => o = some (-1) ∧ H4 = H3) I3 ⟨1, rfl, -1, rfl, rfl, rfl⟩) fun vs s4 ⟨o, H4, I4, ps, eo, e4⟩ => ?_
        subst eo e4
        have I5 : Inv X pins σ H4 { s4 with heap := s4.heap.push { cls := .type "slice", data := .fields #[vl, vu, vs] } } := I4.kept (t' := s4.toks) fun b ob q => Heap.get?_push_of_some _ q
        obtain ⟨l, rfl, hl⟩ := IsPart.raw pl
        obtain ⟨u, rfl, hu⟩ := IsPart.raw pu
        obtain ⟨st, rfl, hst'⟩ := IsPart.raw ps
        have : l = none := Option.map_eq_none_iff.mp hl
        subst this
        have : u = none := Option.map_eq_none_iff.mp hu
        subst this
        obtain ⟨⟨k1, uk⟩, rfl, ek⟩ := Option.map_eq_some_iff.mp hst'
        have ek : k1 = -1 := ek
        subst ek
        show wpAny (model X.prog X.w) X.A (subscriptTail ea (.Slice none none (some (.UnaryOp .USub (.Constant (.int 1) j p1) p2)) p3) (.str a t) (.ref s4.heap.objs.size)) (EP X pins σ Q) X.xe { s4 with heap := s4.heap.push { cls := .type "slice", data := .fields #[.none, .none, .int (-1) uk] } }
        have er : Txt.sliceBy a none none (-1, uk) = (⟨a.cps.toList.reverse.toArray⟩ : Str) := by
          refine TL.ext_tl ?_
          show (Txt.sliceBy a none none (-1, uk)).cps.toList = a.cps.toList.reverse
          rw [step_rev_list]
          refine List.ext_getElem (by simp [Str.length]) fun i h1 h2 => ?_
          rw [List.length_reverse, Array.length_toList] at h2
          have hlt : a.length - 1 - i < a.cps.size := by
            have : a.length = a.cps.size := rfl
            omega
          rw [List.getElem_map, List.getElem_range, List.getElem_reverse, Array.getD_eq_getD_getElem?, Array.getElem?_eq_getElem hlt]
          simp [Str.length]
        refine tail_of_ItemOn ⟨"str", _, F.slot_str_getitem.lookup, typeIs_str _ _ _, wpAny_getItem_str_slice (l := none) (u := none) (st := some (-1, uk)) ⟨_, Heap.get?_push_size _ rfl, rfl, rfl⟩ rfl
          (post_val_or_str ⟨Nat.le_trans (Txt.sliceBy_le a _ _ (-1, uk) (show ((-1 : Int) ≠ 0) by decide)) hx, fun t' c => ?_⟩)⟩ (by with_unfolding_all rfl) (by intro _; cases ea <;> rfl)
        refine ⟨.str _, H4, I5.tok c, ⟨t', rfl⟩, ?_⟩
        show Q (.str (Txt.sliceBy a none none (-1, uk))) H4
        rw [er]
        exact q
      · obtain ⟨a, xs, ex, hx, q⟩ := q1
        subst ex
        cases r1
        have hst : PO X (some (.UnaryOp .USub (.Constant (.int 1) j p1) p2)) (tPart (tUn (rU fun i => .int (-i)) (tC (.int 1)))) := po_some (pe_un un_neg pe_int)
        refine wpAny_Slice (thn (po_none.run pins s1 σ H1 (fun o H2 => o = none ∧ H2 = H1) I1 ⟨rfl, rfl⟩) fun vl s2 ⟨l, H2, I2, pl, el, e2⟩ => ?_)
        subst el e2
        refine thn (po_none.run pins s2 σ H2 (fun o H3 => o = none ∧ H3 = H2) I2 ⟨rfl, rfl⟩) fun vu s3 ⟨u, H3, I3, pu, eu, e3⟩ => ?_
        subst eu e3
        refine thn (hst.run pins s3 σ H3 (fun o H4 => o = some (-1) ∧ H4 = H3) I3 ⟨1, rfl, -1, rfl, rfl, rfl⟩) fun vs s4 ⟨o, H4, I4, ps, eo, e4⟩ => ?_
        subst eo e4
        have I5 : Inv X pins σ H4 { s4 with heap := s4.heap.push { cls := .type "slice", data := .fields #[vl, vu, vs] } } := I4.kept (t' := s4.toks) fun b ob q => Heap.get?_push_of_some _ q
        obtain ⟨its, r, ht, hz⟩ := I5.list hx
        have hlen := r.length
        show wpAny (model X.prog X.w) X.A (subscriptTail ea (.Slice none none (some (.UnaryOp .USub (.Constant (.int 1) j p1) p2)) p3) (.ref a) (.ref s4.heap.objs.size)) (EP X pins σ Q) X.xe { s4 with heap := s4.heap.push { cls := .type "slice", data := .fields #[vl, vu, vs] } }
        refine tail_any (ops := [.ref a, .ref s4.heap.objs.size]) ht.isList.typeIs (PySem.slot_list_getitem.lookup) ?_ (by with_unfolding_all rfl)
        refine wpAny_getItem_list_slice ht.isList (Heap.IsSliceOf.new _ vl vu vs) pl pu ps (by decide) ?_ (by rw [List.size_toArray]; omega)
        rw [PySem.W.krv_pick]
        refine ⟨.ref _, _, I5.laid (t' := s4.toks) (o := .lst xs.reverse) (fun b ob q => Heap.get?_push_of_some _ q) (Nat.le_refl _) ?_, rfl, q _ (I5.hok.fresh (Nat.le_refl _))⟩
        exact ⟨by rw [List.length_reverse]; exact hz, _, 0, r.reverse, Heap.get?_push_size _ rfl⟩
      · obtain ⟨a, xs, ex, hx, q⟩ := q1
        subst ex
        cases r1
        have hst : PO X (some (.UnaryOp .USub (.Constant (.int 1) j p1) p2)) (tPart (tUn (rU fun i => .int (-i)) (tC (.int 1)))) := po_some (pe_un un_neg pe_int)
        refine wpAny_Slice (thn (po_none.run pins s1 σ H1 (fun o H2 => o = none ∧ H2 = H1) I1 ⟨rfl, rfl⟩) fun vl s2 ⟨l, H2, I2, pl, el, e2⟩ => ?_)
        subst el e2
        refine thn (po_none.run pins s2 σ H2 (fun o H3 => o = none ∧ H3 = H2) I2 ⟨rfl, rfl⟩) fun vu s3 ⟨u, H3, I3, pu, eu, e3⟩ => ?_
        subst eu e3
        refine thn (hst.run pins s3 σ H3 (fun o H4 => o = some (-1) ∧ H4 = H3) I3 ⟨1, rfl, -1, rfl, rfl, rfl⟩) fun vs s4 ⟨o, H4, I4, ps, eo, e4⟩ => ?_
        subst eo e4
        have I5 : Inv X pins σ H4 { s4 with heap := s4.heap.push { cls := .type "slice", data := .fields #[vl, vu, vs] } } := I4.kept (t' := s4.toks) fun b ob q => Heap.get?_push_of_some _ q
        obtain ⟨its, r, ht, hz⟩ := I5.tuple hx
        have hlen := r.length
        show wpAny (model X.prog X.w) X.A (subscriptTail ea (.Slice none none (some (.UnaryOp .USub (.Constant (.int 1) j p1) p2)) p3) (.ref a) (.ref s4.heap.objs.size)) (EP X pins σ Q) X.xe { s4 with heap := s4.heap.push { cls := .type "slice", data := .fields #[vl, vu, vs] } }
        refine tail_any (ops := [.ref a, .ref s4.heap.objs.size]) ht.typeIs (PyProof.Rows.slot_tuple_getitem.lookup) ?_ (by with_unfolding_all rfl)
        refine getItem_tuple_rev ht (Heap.IsSliceOf.new _ vl vu vs) pl pu ps ?_ (by rw [List.size_toArray]; omega)
        refine ⟨.ref _, _, I5.laid (t' := s4.toks) (o := .tup xs.reverse) (fun b ob q => Heap.get?_push_of_some _ q) (Nat.le_refl _) ?_, rfl, q _ (I5.hok.fresh (Nat.le_refl _))⟩
        exact ⟨by rw [List.length_reverse]; exact hz, _, r.reverse, IsTup.new _ _⟩
    exact both.run pins s σ H Q I hq
  · have rx := ha _ _ _ _ r1
    cases x with
    | d x =>
      refine SR.lift fun z e Q hQ => ?_
      unfold revD at e
      split at e
      · cases e
        obtain ⟨a, vs, rfl, hH, rl⟩ := PkD.tuple s1 rx
        exact .inr (.inl ⟨a, vs, rfl, gx.hK ▸ hH, ok_tup s1 rl.reverse hQ⟩)
      · cases e
        obtain ⟨a, vs, rfl, hH, rl⟩ := PkD.list s1 rx
        exact .inl ⟨a, vs, rfl, .of hH, ok_lst s1 rl.reverse hQ⟩
      · split at e
        · rename_i hz
          cases e
          cases PkD.str rx
          exact .inr (.inr ⟨_, rfl, szL ▸ hz, ok_str s1 hQ⟩)
        · cases e
      · cases e
    | _ => exact trivial

/-! ### methods of texts -/
def meId : ME → String
  | .join => "str.join"
  | .split => "str.split"
  | .words => "str.split"
  | .partition => "str.partition"
  | .count => "str.count"
  | .replace => "str.replace"
  | .index => "str.index"
  | .get => "str.get"
def wM (X : Cx) (id : String) (σ : Sg) (x : V) (xs : List V) (H : Hp) (Q : VK) : Prop :=
  ∀ (pins : List (Addr × Obj)) (s : Shared) (v : Value) (us : List Value), Inv X pins σ H s → RelV x v → Vals xs us → wpAny (model X.prog X.w) X.A (call (.builtin id) (v :: us)) (EP X pins σ Q) X.xe s
theorem mtR_w {X : Cx} {id : String} : MtR X id (fun x xs H Q => ∀ σ, wM X id σ x xs H Q) := fun pins s σ H x xs v us Q I rx rv h => h σ pins s v us I rx rv
theorem wM_of {X : Cx} {id : String} {σ : Sg} {x : V} {xs : List V} {H : Hp} {Q : VK} {r : V → List V → Hp → VK → Prop} (p : MtR X id r) (h : r x xs H Q) : wM X id σ x xs H Q := fun pins s v us I rx rv => p pins s σ H x xs v us Q I rx rv h
theorem noSup_base {o : Expr} {nm : Str} {env : Env} (h : noSup o = true) : attributeBase o nm env (eval o env) = eval o env := by
  cases o <;> first | rfl | skip
  rename_i f _ _ _
  cases f <;> first | rfl | cases h
theorem RpL.strs {K : PySem.W.Frag} {Z : Hp} : ∀ {xs : List PyData} {vs : List V} {ys : List Str}, RpL K Z xs vs → strsOf xs = some ys → vs = ys.map V.str
  | [], vs, ys, r, e => by
    cases e
    simp only [RpL] at r
    subst r
    rfl
  | x :: xs, vs, ys, r, e => by
    simp only [RpL] at r
    obtain ⟨v, t, rfl, r1, r2⟩ := r
    cases x <;> simp only [strsOf] at e <;> first | (cases e; done) | skip
    obtain ⟨zs, e1, rfl⟩ := Option.map_eq_some_iff.mp e
    simp only [Rp] at r1
    subst r1
    rw [RpL.strs r2 e1]
    rfl
theorem RpL.of_strs {K : PySem.W.Frag} {Z : Hp} : ∀ ys : List Str, RpL K Z (ys.map .str) (ys.map V.str)
  | [] => RpL.nil
  | y :: ys => RpL.cons (by simp only [Rp]) (RpL.of_strs ys)
theorem mt_index {X : Cx} : MtR X "str.index" (fun x xs H Q => ∃ a b i rest, x = .str a ∧ xs = [.str b] ∧ PySem.Builtin.Str.occurrences a b 0 a.length 1 = i :: rest ∧ Q (.int (i : Int)) H) := by
  intro pins s σ H x xs v us Q I rx rs h
  obtain ⟨a, b, i, rest, rfl, rfl, ho, h⟩ := h
  obtain ⟨t, rfl⟩ := rx
  cases rs with
  | cons r1 rs =>
    cases rs
    obtain ⟨u, rfl⟩ := r1
    exact call_gives PySem.F.slot_str_index (typeIs_str _ _ _) PySem.F.entry_str_index (PySem.F.args_str_index_2 _ _) (gives_str_index a b t u i rest ho) ⟨.int i, H, I.tok (s.toks + 1), ⟨_, rfl⟩, h⟩
theorem me_ok {m : ME} {a : Str} {ds : List PyData} {vs : List V} {z : PyData} (hK : X.K = pg.K) (s : Sim pg.K g h H) (r : RpL pg.K g.Z ds vs) (e : meD m (.str a) ds = some z) {Q : VK}
    (hQ : ∀ v H' g', Sim pg.K g' h H' → Pres g H g' H' → VlRel pg.K g' H' (.d z) v → Q v H') : wM X (meId m) σ (.str a) vs H Q := by
  unfold meD at e
  split at e
  · rename_i a' xs ea
    cases ea
    simp only [RpL, Rp] at r
    obtain ⟨v, t, rfl, ⟨p, ws, rfl, hz, rl⟩, rfl⟩ := r
    obtain ⟨ys, e1, e2⟩ := Option.bind_eq_some_iff.mp e
    split at e2
    · rename_i c
      cases e2
      rw [rl.strs e1] at hz
      exact wM_of mt_join ⟨_, p, ys, rfl, rfl, .inl (.of (s.sub _ _ hz)), by have := c; unfold SZ at this; omega, ok_str s hQ⟩
    · cases e2
  · rename_i a' b ea
    cases ea
    simp only [RpL, Rp] at r
    obtain ⟨v, t, rfl, rfl, rfl⟩ := r
    split at e
    · rename_i c
      cases e
      exact wM_of mt_split ⟨_, b, rfl, rfl, c.1, szL ▸ c.2, ok_lst s (RpL.of_strs _) hQ⟩
    · cases e
  · rename_i a' ea
    cases ea
    simp only [RpL] at r
    subst r
    split at e
    · rename_i c
      cases e
      exact wM_of mt_words ⟨_, rfl, rfl, szL ▸ c, ok_lst s (RpL.of_strs _) hQ⟩
    · cases e
  · rename_i a' b ea
    cases ea
    simp only [RpL, Rp] at r
    obtain ⟨v, t, rfl, rfl, rfl⟩ := r
    split at e
    · rename_i c
      cases e
      exact wM_of mt_partition ⟨_, b, rfl, rfl, c.1, szL ▸ c.2, ok_tup s (RpL.of_strs [_, _, _]) hQ⟩
    · cases e
  · rename_i a' b ea
    cases ea
    simp only [RpL, Rp] at r
    obtain ⟨v, t, rfl, rfl, rfl⟩ := r
    cases e
    exact wM_of mt_count ⟨_, b, rfl, rfl, ok_int s hQ⟩
  · rename_i a' b ea
    cases ea
    simp only [RpL, Rp] at r
    obtain ⟨v, t, rfl, rfl, rfl⟩ := r
    obtain ⟨i, e1, rfl⟩ := Option.map_eq_some_iff.mp e
    obtain ⟨rest, e2⟩ := List.head?_eq_some_iff.mp e1
    exact wM_of mt_index ⟨_, b, i, rest, rfl, rfl, e2, ok_int s hQ⟩
  · cases e
theorem SE.me0 {m : ME} {o : Te} {eo : Expr} {nm : Str} {ap pos : Pos} {Ro : Gh → Hp → Vl → V → Prop} (gx : GX X c pg tb G C n) (ho : ∀ g H x v, Ro g H x v → PkR pg.K g H x v) (hn : nm = meN m) (hs : noSup eo = true) (hl : (ap.endLine == pos.line) = true) (hm : meA m 0 = true)
    (q1 : SR pg X σ g H Ro (evE C G o env h) (wE X eo σ H)) :
    SR pg X σ g H (VlRel pg.K) (evE C G (.me m o []) env h) (wE X (.Call (.Attribute eo nm ap) [] [] pos) σ H) := by
  have hw : m = .words := by cases m <;> first | rfl | cases hm
  subst hw
  have hn : nm = ("split" : Str) := hn
  subst hn
  rw [evE]
  refine SR.bind (w2 := fun (x : V) (H1 : Hp) (Q : VK) => (∃ a : Str, x = V.str a) ∧ ∀ σ, wM X "str.split" σ x [] H1 Q) q1 (fun Q hq => wE_of (pe_m0 F.slot_str_split F.type_str_split mtR_w pe_w (noSup_base hs) hl) hq) fun x h1 v H1 g1 _ s1 p1 r1 => ?_
  have rx := ho _ _ _ _ r1
  cases x with
  | d x =>
    cases x with
    | str a =>
      cases PkD.str rx
      rw [evEs]
      exact SR.lift fun z e2 Q hQ => ⟨⟨a, rfl⟩, fun σ => me_ok (m := .words) (vs := []) gx.hK s1 RpL.nil e2 hQ⟩
    | _ => exact trivial
  | _ => exact trivial
theorem SE.me1 {m : ME} {o : Te} {es : List Te} {eo e0 : Expr} {nm : Str} {ap pos : Pos} {Ro : Gh → Hp → Vl → V → Prop} (gx : GX X c pg tb G C n) (ho : ∀ g H x v, Ro g H x v → PkR pg.K g H x v) (hn : nm = meN m) (hs : noSup eo = true) (hl : (ap.endLine == pos.line) = true) (hm : meA m 1 = true) (ns : noStar e0 = true)
    (q1 : SR pg X σ g H Ro (evE C G o env h) (wE X eo σ H))
    (q2 : ∀ h1 g1 H1, Sim pg.K g1 h1 H1 → Pres g H g1 H1 → SR pg X σ g1 H1 (fun g H xs v => ∃ x, xs = [x] ∧ VlR pg.K g x v) (evEs C G es env h1) (wE X e0 σ H1)) :
    SR pg X σ g H (VlRel pg.K) (evE C G (.me m o es) env h) (wE X (.Call (.Attribute eo nm ap) [e0] [] pos) σ H) := by
  have go : ∀ Q : VK, wE X eo σ H (fun x H1 => (∃ a, x = .str a) ∧ wE X e0 σ H1 fun y H2 => ∀ σ, wM X (meId m) σ x [y] H2 Q) → wE X (.Call (.Attribute eo nm ap) [e0] [] pos) σ H Q := fun Q hq => by
    subst hn
    have st := star_cons (es := []) (env := X.env) ns
    cases m <;> first | (cases hm; done) | skip
    · exact wE_of (pe_m1 F.slot_str_join F.type_str_join mtR_w pe_w pe_w st (noSup_base hs) hl) hq
    · exact wE_of (pe_m1 F.slot_str_split F.type_str_split mtR_w pe_w pe_w st (noSup_base hs) hl) hq
    · exact wE_of (pe_m1 F.slot_str_partition F.type_str_partition mtR_w pe_w pe_w st (noSup_base hs) hl) hq
    · exact wE_of (pe_m1 F.slot_str_count F.type_str_count mtR_w pe_w pe_w st (noSup_base hs) hl) hq
    · exact wE_of (pe_m1 F.slot_str_index F.type_str_index mtR_w pe_w pe_w st (noSup_base hs) hl) hq
  rw [evE]
  refine SR.bind (w2 := fun (x : V) (H1 : Hp) (Q : VK) => (∃ a : Str, x = V.str a) ∧ wE X e0 σ H1 fun y H2 => ∀ σ, wM X (meId m) σ x [y] H2 Q) q1 go fun x h1 v H1 g1 _ s1 p1 r1 => ?_
  have rx := ho _ _ _ _ r1
  cases x with
  | d x =>
    cases x with
    | str a =>
      cases PkD.str rx
      refine SR.imp (w := fun Q => wE X e0 σ H1 fun y H2 => ∀ σ, wM X (meId m) σ (.str a) [y] H2 Q) ?_ fun Q hq => ⟨⟨a, rfl⟩, hq⟩
      refine SR.bind (w2 := fun y H2 (Q : VK) => ∀ σ, wM X (meId m) σ (.str a) [y] H2 Q) (q2 h1 g1 H1 s1 p1) (fun Q hq => hq) fun xs h2 u H2 g2 _ s2 p2 r2 => ?_
      obtain ⟨y, rfl, ry⟩ := r2
      cases y with
      | d y =>
        show SR pg X σ g2 H2 (VlRel pg.K) (lift (meD m (.str a) [y]) h2) _
        exact SR.lift fun z e2 Q hQ σ => me_ok gx.hK s2 (RpL.cons ry RpL.nil) e2 hQ
      | _ => exact trivial
    | _ => exact trivial
  | _ => exact trivial

/-! ### isinstance -/
def dTy : PyData → String
  | .none => "NoneType"
  | .bool _ => "bool"
  | .int _ => "int"
  | .str _ => "str"
  | .list _ => "list"
  | .tuple _ => "tuple"
  | .dict _ => "dict"
def tyS : Ty → String
  | .int => "int"
  | .str => "str"
  | .bool => "bool"
  | .tuple => "tuple"
  | .list => "list"
  | .dict => "dict"
theorem sqT_ty {K : PySem.W.Frag} {a : Addr} {vs : List V} (q : SqT K H a vs) : TyX K H (.ref a) (.type "tuple") := by
  rcases q with (q | ⟨o, q⟩) | q
  · exact .base (.tup q)
  · exact .fTuple q
  · obtain ⟨o, its, nn, q1, q2, _⟩ := q
    exact .kTuple q1 q2
theorem ty_D {x : PyData} {v : V} (hK : X.K = pg.K) (s : Sim pg.K g h H) (r : PkD pg.K g H x v) : TyX X.K H v (.type (dTy x)) := by
  rw [hK]
  cases x with
  | none => rw [r.none]; exact .base .non
  | bool b => rw [r.bool]; exact .base (.bl b)
  | int i => rw [r.int]; exact .base (.int i)
  | str y => rw [r.str]; exact .base (.str y)
  | list xs =>
    obtain ⟨a, vs, rfl, hH, _⟩ := PkD.list s r
    exact .base (.lst hH)
  | tuple xs =>
    obtain ⟨a, vs, rfl, hH, _⟩ := PkD.tuple s r
    exact sqT_ty hH
  | dict kvs =>
    rcases r with r | ⟨ys, a, vs, e, _⟩
    · simp only [VlR, Rp] at r
      obtain ⟨a, l, rfl, z, _⟩ := r
      exact .base (.dK (s.sub _ _ z))
    · cases e
def kd : PyData → Nat
  | .none => 0
  | .bool _ => 1
  | .int _ => 2
  | .str _ => 3
  | .list _ => 4
  | .tuple _ => 5
  | .dict _ => 6
def kdS : Nat → String
  | 0 => "NoneType"
  | 1 => "bool"
  | 2 => "int"
  | 3 => "str"
  | 4 => "list"
  | 5 => "tuple"
  | _ => "dict"
def kdT : Ty → Nat → Bool
  | .int, 2 => true
  | .int, 1 => true
  | .str, 3 => true
  | .bool, 1 => true
  | .tuple, 5 => true
  | .list, 4 => true
  | .dict, 6 => true
  | _, _ => false
theorem kd_all : ∀ (t : Ty) (k : Fin 7), kitB (kdS k.val) (tyS t) = some (kdT t k.val) := by
  intro t
  cases t <;> decide +kernel
theorem kit_D {K : PySem.W.Frag} (x : PyData) (t : Ty) : PySem.W.kitOne K (.type (dTy x)) (.type (tyS t)) = some (isT t x) := by
  have e1 : dTy x = kdS (kd x) := by cases x <;> rfl
  have e2 : isT t x = kdT t (kd x) := by cases x <;> cases t <;> rfl
  have e3 : kd x < 7 := by cases x <;> simp [kd]
  rw [e1, e2]
  exact kit_ty (kd_all t ⟨kd x, e3⟩)
theorem SE.isi {e : Te} {t : Ty} {e' : Expr} {x : Str} {p pt pos : Pos} {Ra : Gh → Hp → Vl → V → Prop} (gx : GX X c pg tb G C n) (ha : ∀ g H x v, Ra g H x v → PkR pg.K g H x v) (hg : glB c x = true) (hx : x = ("isinstance" : Str)) (hgt : glB c (tyN t) = true) (ns : noStar e' = true)
    (q1 : SR pg X σ g H Ra (evE C G e env h) (wE X e' σ H)) :
    SR pg X σ g H (VlRel pg.K) (evE C G (.isi e [t]) env h) (wE X (.Call (.Name x p) [e', .Name (tyN t) pt] [] pos) σ H) := by
  subst hx
  obtain ⟨o1, o2⟩ := glB_of hg
  obtain ⟨o3, o4⟩ := glB_of hgt
  rw [evE]
  have hmt : X.mg (tyN t) = none := by
    rw [gx.hm]
    exact gx.bt _ (by cases t <;> decide +kernel)
  have pT : PE X (.Name (tyN t) pt) (tC (.ty (tyS t))) := pe_bltn (gx.gl' o3) hmt (u := .type (tyS t)) (by cases t <;> decide +kernel) rfl (by cases t <;> decide) o4
  have args : PA X [e', .Name (tyN t) pt] (tCons (wE X e') (tCons (tC (.ty (tyS t))) tNil)) := pa_cons pe_w (pa_cons pT pa_nil (star_cons rfl)) (star_cons ns)
  have rule := pe_callB (X := X) (p := p) (pos := pos) call_isi (gx.gl' o1) (bt_nm gx (by decide +kernel)) (by decide +kernel) args (by decide) o2 (star_cons ns) (by rfl)
  refine SR.bind (w2 := fun v H1 (Q : VK) => rIsi X.K [v, .ty (tyS t)] H1 Q) q1 (fun Q hq => wE_of rule hq) fun y h1 v H1 g1 _ s1 p1 r1 => ?_
  cases y with
  | d y =>
    refine fun Q hQ => ⟨v, .ty (tyS t), .type (dTy y), .type (tyS t), isT t y, rfl, .ty _, ty_D gx.hK s1 (ha _ _ _ _ r1), kit_D y t, ?_⟩
    have e1 : ([t].any fun t => isT t y) = isT t y := by simp
    have := ok_bl (i := isT t y) s1 (Q := Q)
    refine this fun v H' g' s' p' r' => hQ v H' g' s' p' ?_
    rw [e1]
    exact r'
  | _ => exact trivial

/-! ### and, or -/
abbrev QB : Gh → Hp → Bool → Bool → Prop := fun _ _ a b => a = b
theorem evAnd_cons2 {e e2 : Te} {r : List Te} : evAnd C G (e :: e2 :: r) env h = (evE C G e env h).bind fun x h1 => match truV x with
    | some true => evAnd C G (e2 :: r) env h1
    | some false => .ok x h1
    | none => .no := by
  rw [evAnd]
  all_goals first | rfl | exact fun z => nomatch z
theorem evOr_cons2 {e e2 : Te} {r : List Te} : evOr C G (e :: e2 :: r) env h = (evE C G e env h).bind fun x h1 => match truV x with
    | some true => .ok x h1
    | some false => evOr C G (e2 :: r) env h1
    | none => .no := by
  rw [evOr]
  all_goals first | rfl | exact fun z => nomatch z
theorem SAnd.one {e : Te} {ee : Expr} {pos : Pos} (q1 : SR pg X σ g H (VlRel pg.K) (evE C G e env h) (wE X ee σ H)) (q2 : SR pg X σ g H QB (tru (evE C G e env h)) (wT X ee σ H)) :
    SR pg X σ g H (VlRel pg.K) (evAnd C G [e] env h) (wE X (.BoolOp .And [ee] pos) σ H) ∧ SR pg X σ g H QB (tru (evAnd C G [e] env h)) (wT X (.BoolOp .And [ee] pos) σ H) := by
  rw [evAnd]
  exact ⟨q1.imp fun Q hq => wE_of (pe_one pe_w) hq, q2.imp fun Q hq pins s I => (pw_and1 pt_w).run _ pins s σ H Q I hq⟩
theorem SOr.one {e : Te} {ee : Expr} {pos : Pos} (q1 : SR pg X σ g H (VlRel pg.K) (evE C G e env h) (wE X ee σ H)) (q2 : SR pg X σ g H QB (tru (evE C G e env h)) (wT X ee σ H)) :
    SR pg X σ g H (VlRel pg.K) (evOr C G [e] env h) (wE X (.BoolOp .Or [ee] pos) σ H) ∧ SR pg X σ g H QB (tru (evOr C G [e] env h)) (wT X (.BoolOp .Or [ee] pos) σ H) := by
  rw [evOr]
  exact ⟨q1.imp fun Q hq => wE_of (pe_one pe_w) hq, q2.imp fun Q hq pins s I => (pw_or1 pt_w).run _ pins s σ H Q I hq⟩
theorem tru_ok_of {x : Vl} {b : Bool} (e : truV x = some b) : tru (.ok x h) = .ok b h := by
  unfold tru
  show (match truV x with | some b => R.ok b h | none => .no) = _
  rw [e]
theorem SAnd.cons {e e2 : Te} {r : List Te} {ee ee2 : Expr} {er : List Expr} {pos : Pos} (gx : GX X c pg tb G C n) (q1 : SR pg X σ g H (VlRel pg.K) (evE C G e env h) (wE X ee σ H)) (q2 : SR pg X σ g H QB (tru (evE C G e env h)) (wT X ee σ H))
    (q3 : ∀ h1 g1 H1, Sim pg.K g1 h1 H1 → Pres g H g1 H1 → SR pg X σ g1 H1 (VlRel pg.K) (evAnd C G (e2 :: r) env h1) (wE X (.BoolOp .And (ee2 :: er) pos) σ H1) ∧ SR pg X σ g1 H1 QB (tru (evAnd C G (e2 :: r) env h1)) (wT X (.BoolOp .And (ee2 :: er) pos) σ H1)) :
    SR pg X σ g H (VlRel pg.K) (evAnd C G (e :: e2 :: r) env h) (wE X (.BoolOp .And (ee :: ee2 :: er) pos) σ H) ∧ SR pg X σ g H QB (tru (evAnd C G (e :: e2 :: r) env h)) (wT X (.BoolOp .And (ee :: ee2 :: er) pos) σ H) := by
  rw [evAnd_cons2]
  constructor
  · refine SR.bind (w2 := fun x H1 Q => ∃ k, TruV X.K x H1 k ∧ if k = true then wE X (.BoolOp .And (ee2 :: er) pos) σ H1 Q else Q x H1) q1 (fun Q hq => wE_of (pe_andT pe_w pe_w) hq) fun x h1 v H1 g1 _ s1 p1 r1 => ?_
    cases t : truV x with
    | none => exact trivial
    | some k =>
      have tv := tru_V gx.hK s1 (.inl r1) t
      cases k with
      | true => exact (q3 h1 g1 H1 s1 p1).1.imp fun Q hq => ⟨true, tv, hq⟩
      | false => exact fun Q hQ => ⟨false, tv, hQ v H1 g1 s1 Pres.refl r1⟩
  · have e1 : tru ((evE C G e env h).bind fun x h1 => match truV x with
        | some true => evAnd C G (e2 :: r) env h1
        | some false => .ok x h1
        | none => .no) = (tru (evE C G e env h)).bind fun k h1 => if k = true then tru (evAnd C G (e2 :: r) env h1) else .ok false h1 := by
      rw [tru_bind]
      unfold tru
      cases evE C G e env h with
      | no => rfl
      | ex _ _ => rfl
      | ok x h1 =>
        show tru _ = R.bind (match truV x with | some b => R.ok b h1 | none => .no) _
        cases t : truV x with
        | none => rfl
        | some k => cases k with
          | true => rfl
          | false => exact tru_ok_of t
    rw [e1]
    refine SR.bind (w2 := fun k H1 Q => if k = true then wT X (.BoolOp .And (ee2 :: er) pos) σ H1 Q else Q false H1) q2 (fun Q hq pins s I => ?_) fun k h1 v H1 g1 _ s1 p1 r1 => ?_
    · refine isTrue_and (thn (hq pins s I) fun k s1 ⟨H1, I1, q⟩ => ?_)
      cases k with
      | true => exact q pins s1 I1
      | false => exact ⟨H1, I1, q⟩
    · subst r1
      cases k with
      | true => exact (q3 h1 g1 H1 s1 p1).2
      | false => exact fun Q hQ => hQ false H1 g1 s1 Pres.refl rfl
theorem SOr.cons {e e2 : Te} {r : List Te} {ee ee2 : Expr} {er : List Expr} {pos : Pos} (gx : GX X c pg tb G C n) (q1 : SR pg X σ g H (VlRel pg.K) (evE C G e env h) (wE X ee σ H)) (q2 : SR pg X σ g H QB (tru (evE C G e env h)) (wT X ee σ H))
    (q3 : ∀ h1 g1 H1, Sim pg.K g1 h1 H1 → Pres g H g1 H1 → SR pg X σ g1 H1 (VlRel pg.K) (evOr C G (e2 :: r) env h1) (wE X (.BoolOp .Or (ee2 :: er) pos) σ H1) ∧ SR pg X σ g1 H1 QB (tru (evOr C G (e2 :: r) env h1)) (wT X (.BoolOp .Or (ee2 :: er) pos) σ H1)) :
    SR pg X σ g H (VlRel pg.K) (evOr C G (e :: e2 :: r) env h) (wE X (.BoolOp .Or (ee :: ee2 :: er) pos) σ H) ∧ SR pg X σ g H QB (tru (evOr C G (e :: e2 :: r) env h)) (wT X (.BoolOp .Or (ee :: ee2 :: er) pos) σ H) := by
  rw [evOr_cons2]
  constructor
  · refine SR.bind (w2 := fun x H1 Q => ∃ k, TruV X.K x H1 k ∧ if k = true then Q x H1 else wE X (.BoolOp .Or (ee2 :: er) pos) σ H1 Q) q1 (fun Q hq => wE_of (pe_orT pe_w pe_w) hq) fun x h1 v H1 g1 _ s1 p1 r1 => ?_
    cases t : truV x with
    | none => exact trivial
    | some k =>
      have tv := tru_V gx.hK s1 (.inl r1) t
      cases k with
      | false => exact (q3 h1 g1 H1 s1 p1).1.imp fun Q hq => ⟨false, tv, hq⟩
      | true => exact fun Q hQ => ⟨true, tv, hQ v H1 g1 s1 Pres.refl r1⟩
  · have e1 : tru ((evE C G e env h).bind fun x h1 => match truV x with
        | some true => .ok x h1
        | some false => evOr C G (e2 :: r) env h1
        | none => .no) = (tru (evE C G e env h)).bind fun k h1 => if k = true then .ok true h1 else tru (evOr C G (e2 :: r) env h1) := by
      rw [tru_bind]
      unfold tru
      cases evE C G e env h with
      | no => rfl
      | ex _ _ => rfl
      | ok x h1 =>
        show tru _ = R.bind (match truV x with | some b => R.ok b h1 | none => .no) _
        cases t : truV x with
        | none => rfl
        | some k => cases k with
          | false => rfl
          | true => exact tru_ok_of t
    rw [e1]
    refine SR.bind (w2 := fun k H1 Q => if k = true then Q true H1 else wT X (.BoolOp .Or (ee2 :: er) pos) σ H1 Q) q2 (fun Q hq pins s I => ?_) fun k h1 v H1 g1 _ s1 p1 r1 => ?_
    · refine isTrue_or (thn (hq pins s I) fun k s1 ⟨H1, I1, q⟩ => ?_)
      cases k with
      | false => exact q pins s1 I1
      | true => exact ⟨H1, I1, q⟩
    · subst r1
      cases k with
      | false => exact (q3 h1 g1 H1 s1 p1).2
      | true => exact fun Q hQ => hQ true H1 g1 s1 Pres.refl rfl
end
end Mi
/-! Mi: all expressions: the recursion. -/
namespace Mi
open PySem PySem.Spec PyProof.Rows L2
section
variable {pg : Pg} {tb : Tb} {G : Nat → Option PyData} {C : Cf} {n : Nat}

/-- both readings of an expression -/
structure EOk (pg : Pg) (X : Cx) (G : Nat → Option PyData) (C : Cf) (p : Te) (e : Expr) (g : Gh) (H : Hp) (σ : Sg) (env : En) (h : Sh) : Prop where
  v : SR pg X σ g H (RelP pg.K p) (evE C G p env h) (wE X e σ H)
  t : SR pg X σ g H QB (tru (evE C G p env h)) (wT X e σ H)
abbrev AllE (pg : Pg) (tb : Tb) (G : Nat → Option PyData) (C : Cf) (n : Nat) (p : Te) : Prop :=
  ∀ (e : Expr) (X : Cx) (c : Cd) (g : Gh) (H : Hp) (σ : Sg) (env : En) (h : Sh), GX X c pg tb G C n → okE c tb p e = true → Sim pg.K g h H → EnR pg.K g H env σ → EOk pg X G C p e g H σ env h

variable {X : Cx} {c : Cd} {g : Gh} {H : Hp} {σ : Sg} {env : En} {h : Sh} {p : Te} {e : Expr}
theorem pk_of {p : Te} (g : Gh) (H : Hp) (x : Vl) (v : V) (r : RelP pg.K p g H x v) : PkR pg.K g H x v := r.pk
theorem EOk.byV (gx : GX X c pg tb G C n) (hv : byValue e = true) (q : SR pg X σ g H (RelP pg.K p) (evE C G p env h) (wE X e σ H)) : EOk pg X G C p e g H σ env h := ⟨q, test_of gx hv pk_of q⟩
theorem EOk.two (hp : isPeek p = false) (q : SR pg X σ g H (VlRel pg.K) (evE C G p env h) (wE X e σ H) ∧ SR pg X σ g H QB (tru (evE C G p env h)) (wT X e σ H)) : EOk pg X G C p e g H σ env h := ⟨q.1.toP hp, q.2⟩
theorem EOk.vl (q : EOk pg X G C p e g H σ env h) (hp : isPeek p = false) : SR pg X σ g H (VlRel pg.K) (evE C G p env h) (wE X e σ H) := q.v.weak fun _ _ _ _ r => RelP.vl hp r
theorem npk {p : Te} (h : (!isPeek p) = true) : isPeek p = false := by simpa using h

theorem okL_byV {l : Tl} {e : Expr} (ok : okL c tb l e = true) : byValue e = true := by
  unfold okL at ok
  split at ok <;> first | rfl | cases ok
theorem itB_noSet {oe : List Expr → Bool} {tg : Tg} {k : Mi.It} {e : Expr} (ok : itB c oe tg k e = true) : noSet e = true := by
  unfold itB at ok
  split at ok
  · rfl
  · rfl
  · rfl
  · rfl
  · rw [Bool.and_eq_true] at ok; exact ok.2
  · cases ok
mutual
theorem okE_all : ∀ p : Te, AllE pg tb G C n p
  | .cst v => by
    intro e X c g H σ env h gx ok s en
    unfold okE at ok
    split at ok
    all_goals first | (cases ok; done) | (rename_i hq; cases hq; done) | skip
    rename_i hq
    cases hq
    exact .byV gx rfl ((SE.cst s ok).toP rfl)
  | .var i => by
    intro e X c g H σ env h gx ok s en
    unfold okE at ok
    split at ok
    all_goals first | (cases ok; done) | (rename_i hq; cases hq; done) | skip
    rename_i hq
    cases hq
    exact .byV gx rfl ((SE.var gx s en ok).toP rfl)
  | .peek i => by
    intro e X c g H σ env h gx ok s en
    unfold okE at ok
    split at ok
    all_goals first | (cases ok; done) | (rename_i hq; cases hq; done) | skip
    rename_i hq
    cases hq
    exact .byV gx rfl (SE.peek gx s en ok)
  | .glob i => by
    intro e X c g H σ env h gx ok s en
    unfold okE at ok
    split at ok
    all_goals first | (cases ok; done) | (rename_i hq; cases hq; done) | skip
    rename_i hq
    cases hq
    exact .byV gx rfl ((SE.glob gx s ok).toP rfl)
  | .bin op a b => by
    intro e X c g H σ env h gx ok s en
    unfold okE at ok
    split at ok
    all_goals first | (cases ok; done) | (rename_i hq; cases hq; done) | skip
    rename_i hq
    cases hq
    simp only [Bool.and_eq_true] at ok
    obtain ⟨⟨o1, o2⟩, o3⟩ := ok
    have o1 := of_decide_eq_true o1
    subst o1
    exact .byV gx rfl ((SE.bin gx pk_of pk_of (okE_all a _ X c g H σ env h gx o2 s en).v (fun h1 g1 H1 s1 p1 => (okE_all b _ X c g1 H1 σ env h1 gx o3 s1 (en.mono p1)).v)).toP rfl)
  | .cmp op a b => by
    intro e X c g H σ env h gx ok s en
    unfold okE at ok
    split at ok
    all_goals first | (cases ok; done) | (rename_i hq; cases hq; done) | skip
    rename_i hq
    cases hq
    simp only [Bool.and_eq_true] at ok
    obtain ⟨⟨⟨o1, o2⟩, o3⟩, o4⟩ := ok
    have o1 := of_decide_eq_true o1
    subst o1
    exact .two rfl (SE.cmp gx o4 pk_of pk_of (okE_all a _ X c g H σ env h gx o2 s en).v (fun h1 g1 H1 s1 p1 => (okE_all b _ X c g1 H1 σ env h1 gx o3 s1 (en.mono p1)).v))
  | .chain o1 o2 a b d => by
    intro e X c g H σ env h gx ok s en
    unfold okE at ok
    split at ok
    all_goals first | (cases ok; done) | (rename_i hq; cases hq; done) | skip
    rename_i hq
    cases hq
    simp only [Bool.and_eq_true] at ok
    obtain ⟨⟨⟨⟨⟨q1, q2⟩, q3⟩, q4⟩, q5⟩, q6⟩ := ok
    have q1 := of_decide_eq_true q1
    have q2 := of_decide_eq_true q2
    subst q1 q2
    exact .two rfl (SE.chain gx q6 pk_of pk_of pk_of (okE_all a _ X c g H σ env h gx q3 s en).v (fun h1 g1 H1 s1 p1 => (okE_all b _ X c g1 H1 σ env h1 gx q4 s1 (en.mono p1)).v) (fun h1 g1 H1 s1 p1 => (okE_all d _ X c g1 H1 σ env h1 gx q5 s1 (en.mono p1)).v))
  | .and es => by
    intro e X c g H σ env h gx ok s en
    unfold okE at ok
    split at ok
    all_goals first | (cases ok; done) | (rename_i hq; cases hq; done) | skip
    rename_i hq
    cases hq
    exact .two rfl (by
      rw [evE]
      exact okAnd_all es _ X c g H σ env h _ gx ok s en)
  | .or es => by
    intro e X c g H σ env h gx ok s en
    unfold okE at ok
    split at ok
    all_goals first | (cases ok; done) | (rename_i hq; cases hq; done) | skip
    rename_i hq
    cases hq
    exact .two rfl (by
      rw [evE]
      exact okOr_all es _ X c g H σ env h _ gx ok s en)
  | .not a => by
    intro e X c g H σ env h gx ok s en
    unfold okE at ok
    split at ok
    all_goals first | (cases ok; done) | (rename_i hq; cases hq; done) | skip
    rename_i hq
    cases hq
    exact .two rfl (SE.not gx pk_of (okE_all a _ X c g H σ env h gx ok s en).v (okE_all a _ X c g H σ env h gx ok s en).t)
  | .ite t a b => by
    intro e X c g H σ env h gx ok s en
    unfold okE at ok
    split at ok
    all_goals first | (cases ok; done) | (rename_i hq; cases hq; done) | skip
    rename_i hq
    cases hq
    simp only [Bool.and_eq_true] at ok
    obtain ⟨⟨⟨⟨o1, o2⟩, o3⟩, o4⟩, o5⟩ := ok
    exact .two rfl (SE.ite (okE_all t _ X c g H σ env h gx o1 s en).t (fun h1 g1 H1 s1 p1 => ⟨(okE_all a _ X c g1 H1 σ env h1 gx o2 s1 (en.mono p1)).vl (npk o4), (okE_all a _ X c g1 H1 σ env h1 gx o2 s1 (en.mono p1)).t⟩)
      (fun h1 g1 H1 s1 p1 => ⟨(okE_all b _ X c g1 H1 σ env h1 gx o3 s1 (en.mono p1)).vl (npk o5), (okE_all b _ X c g1 H1 σ env h1 gx o3 s1 (en.mono p1)).t⟩))
  | .neg a => by
    intro e X c g H σ env h gx ok s en
    unfold okE at ok
    split at ok
    all_goals first | (cases ok; done) | (rename_i hq; cases hq; done) | skip
    rename_i hq
    cases hq
    exact .byV gx rfl ((SE.neg pk_of (okE_all a _ X c g H σ env h gx ok s en).v).toP rfl)
  | .tup es => by
    intro e X c g H σ env h gx ok s en
    unfold okE at ok
    split at ok
    all_goals first | (cases ok; done) | (rename_i hq; cases hq; done) | skip
    rename_i hq
    cases hq
    exact .byV gx rfl ((SE.tup (okEs_all es false _ X c g H σ env h gx ok s en)).toP rfl)
  | .dict0 => by
    intro e X c g H σ env h gx ok s en
    unfold okE at ok
    split at ok
    all_goals first | (cases ok; done) | (rename_i hq; cases hq; done) | skip
    rename_i hq
    cases hq
    exact .byV gx rfl ((SE.dict0 s).toP rfl)
  | .ofL l => by
    intro e X c g H σ env h gx ok s en
    unfold okE at ok
    have q := (SE.ofL (okL_all l _ X c g H σ env h gx ok s en)).toP (p := .ofL l) rfl
    exact .byV gx (okL_byV ok) q
  | .newl l => by
    intro e X c g H σ env h gx ok s en
    unfold okE at ok
    have q := (SE.newl (okL_all l _ X c g H σ env h gx ok s en)).toP (p := .newl l) rfl
    exact .byV gx (okL_byV ok) q
  | .ix a i => by
    intro e X c g H σ env h gx ok s en
    unfold okE at ok
    split at ok
    all_goals first | (cases ok; done) | (rename_i hq; cases hq; done) | skip
    rename_i hq
    cases hq
    simp only [Bool.and_eq_true] at ok
    obtain ⟨⟨o1, o2⟩, o3⟩ := ok
    exact .byV gx rfl ((SE.ix gx o3 pk_of pk_of (okE_all a _ X c g H σ env h gx o1 s en).v (fun h1 g1 H1 s1 p1 => (okE_all i _ X c g1 H1 σ env h1 gx o2 s1 (en.mono p1)).v)).toP rfl)
  | .sliceF a i => by
    intro e X c g H σ env h gx ok s en
    unfold okE at ok
    split at ok
    all_goals first | (cases ok; done) | (rename_i hq; cases hq; done) | skip
    rename_i hq
    cases hq
    simp only [Bool.and_eq_true] at ok
    obtain ⟨o1, o2⟩ := ok
    exact .byV gx rfl ((SE.sliceF gx pk_of pk_of (okE_all a _ X c g H σ env h gx o1 s en).v (fun h1 g1 H1 s1 p1 => (okE_all i _ X c g1 H1 σ env h1 gx o2 s1 (en.mono p1)).v)).toP rfl)
  | .sliceT a i => by
    intro e X c g H σ env h gx ok s en
    unfold okE at ok
    split at ok
    all_goals first | (cases ok; done) | (rename_i hq; cases hq; done) | skip
    rename_i hq
    cases hq
    simp only [Bool.and_eq_true] at ok
    obtain ⟨o1, o2⟩ := ok
    exact .byV gx rfl ((SE.sliceT gx pk_of pk_of (okE_all a _ X c g H σ env h gx o1 s en).v (fun h1 g1 H1 s1 p1 => (okE_all i _ X c g1 H1 σ env h1 gx o2 s1 (en.mono p1)).v)).toP rfl)
  | .sliceB a i j => by
    intro e X c g H σ env h gx ok s en
    unfold okE at ok
    split at ok
    all_goals first | (cases ok; done) | (rename_i hq; cases hq; done) | skip
    rename_i hq
    cases hq
    simp only [Bool.and_eq_true] at ok
    obtain ⟨⟨o1, o2⟩, o3⟩ := ok
    exact .byV gx rfl ((SE.sliceB gx pk_of pk_of pk_of (okE_all a _ X c g H σ env h gx o1 s en).v (fun h1 g1 H1 s1 p1 => (okE_all i _ X c g1 H1 σ env h1 gx o2 s1 (en.mono p1)).v) (fun h1 g1 H1 s1 p1 => (okE_all j _ X c g1 H1 σ env h1 gx o3 s1 (en.mono p1)).v)).toP rfl)
  | .rev a => by
    intro e X c g H σ env h gx ok s en
    unfold okE at ok
    split at ok
    all_goals first | (cases ok; done) | (rename_i hq; cases hq; done) | skip
    rename_i hq
    cases hq
    exact .byV gx rfl ((SE.rev gx pk_of (okE_all a _ X c g H σ env h gx ok s en).v).toP rfl)
  | .call f es => by
    intro e X c g H σ env h gx ok s en
    unfold okE at ok
    split at ok
    all_goals first | (cases ok; done) | (rename_i hq; cases hq; done) | skip
    rename_i hq
    cases hq
    simp only [Bool.and_eq_true] at ok
    obtain ⟨⟨o1, o2⟩, o3⟩ := ok
    exact .byV gx rfl ((SE.call gx o1 (of_decide_eq_true o2) (okEs_stars o3) (okEs_all es false _ X c g H σ env h gx o3 s en)).toP rfl)
  | .bi b es => by
    intro e X c g H σ env h gx ok s en
    unfold okE at ok
    split at ok
    all_goals first | (cases ok; done) | (rename_i hq; cases hq; done) | skip
    rename_i hq
    cases hq
    simp only [Bool.and_eq_true] at ok
    obtain ⟨⟨⟨o1, o2⟩, o3⟩, o4⟩ := ok
    rename_i ees _
    cases ees with
    | nil => cases o4
    | cons e0 er => exact .byV gx rfl ((SE.bi gx o1 (of_decide_eq_true o2) (okEs_stars o3) (okEs_all es true _ X c g H σ env h gx o3 s en)).toP rfl)
  | .isi a ts => by
    intro e X c g H σ env h gx ok s en
    unfold okE at ok
    split at ok
    all_goals first | (cases ok; done) | (rename_i hq; cases hq; done) | skip
    rename_i hq
    cases hq
    simp only [Bool.and_eq_true] at ok
    obtain ⟨⟨⟨⟨o1, o2⟩, o3⟩, o4⟩, o5⟩ := ok
    split at o5
    · rw [Bool.and_eq_true] at o5
      obtain ⟨o6, o7⟩ := o5
      have o6 := of_decide_eq_true o6
      subst o6
      exact .byV gx rfl ((SE.isi gx pk_of o1 (of_decide_eq_true o2) o7 o4 (okE_all a _ X c g H σ env h gx o3 s en).v).toP rfl)
    · cases o5
  | .me m r es => by
    intro e X c g H σ env h gx ok s en
    unfold okE at ok
    split at ok
    all_goals first | (cases ok; done) | (rename_i hq; cases hq; done) | skip
    rename_i hq
    cases hq
    simp only [Bool.and_eq_true] at ok
    obtain ⟨⟨⟨⟨⟨o1, o2⟩, o3⟩, o4⟩, o5⟩, o6⟩ := ok
    rename_i ees _
    rcases ees with _ | ⟨e0, _ | ⟨e1, er⟩⟩
    · cases es with
      | nil => exact .byV gx rfl ((SE.me0 gx pk_of (of_decide_eq_true o3) o4 o5 o6 (okE_all r _ X c g H σ env h gx o1 s en).v).toP rfl)
      | cons _ _ => simp [okEs] at o2
    · have o2' := okEs_stars o2
      rw [noStars, Bool.and_eq_true] at o2'
      exact .byV gx rfl ((SE.me1 gx pk_of (of_decide_eq_true o3) o4 o5 o6 o2'.1 (okE_all r _ X c g H σ env h gx o1 s en).v (fun h1 g1 H1 s1 p1 => okOne_all es _ X c g1 H1 σ env h1 gx o2 s1 (en.mono p1))).toP rfl)
    · cases m <;> cases o6
theorem okEs_all : ∀ (es : List Te) (pk : Bool) (ees : List Expr) (X : Cx) (c : Cd) (g : Gh) (H : Hp) (σ : Sg) (env : En) (h : Sh), GX X c pg tb G C n → okEs c tb pk es ees = true → Sim pg.K g h H → EnR pg.K g H env σ → SR pg X σ g H (ArR pg.K pk) (evEs C G es env h) (wA X ees σ H)
  | [], pk, ees, X, c, g, H, σ, env, h, gx, ok, s, en => by
    cases ees with
    | nil => exact SA.nil s
    | cons _ _ => simp [okEs] at ok
  | p :: es, pk, ees, X, c, g, H, σ, env, h, gx, ok, s, en => by
    cases ees with
    | nil => simp [okEs] at ok
    | cons e ees =>
      simp only [okEs, Bool.and_eq_true] at ok
      obtain ⟨⟨⟨o1, o2⟩, o3⟩, o4⟩ := ok
      exact SA.cons o3 (okE_all p _ X c g H σ env h gx o1 s en).v o2 (fun h1 g1 H1 s1 p1 => okEs_all es pk _ X c g1 H1 σ env h1 gx o4 s1 (en.mono p1))
theorem okOne_all : ∀ (es : List Te) (e : Expr) (X : Cx) (c : Cd) (g : Gh) (H : Hp) (σ : Sg) (env : En) (h : Sh), GX X c pg tb G C n → okEs c tb false es [e] = true → Sim pg.K g h H → EnR pg.K g H env σ →
    SR pg X σ g H (fun g H xs v => ∃ x, xs = [x] ∧ VlR pg.K g x v) (evEs C G es env h) (wE X e σ H)
  | [], e, X, c, g, H, σ, env, h, gx, ok, s, en => by simp [okEs] at ok
  | [p], e, X, c, g, H, σ, env, h, gx, ok, s, en => by
    simp only [okEs, Bool.and_eq_true] at ok
    obtain ⟨⟨⟨o1, o2⟩, o3⟩, o4⟩ := ok
    have o2 : isPeek p = false := by simpa using o2
    have q := (okE_all p _ X c g H σ env h gx o1 s en).vl o2
    rw [evEs]
    refine SR.bind (w2 := fun v H1 Q => Q v H1) q (fun Q hq => hq) fun x h1 v H1 g1 _ s1 p1 r1 => ?_
    rw [evEs]
    exact fun Q hQ => hQ v H1 g1 s1 Pres.refl ⟨x, rfl, r1⟩
  | p :: p2 :: es, e, X, c, g, H, σ, env, h, gx, ok, s, en => by simp [okEs] at ok
theorem okAnd_all : ∀ (es : List Te) (ees : List Expr) (X : Cx) (c : Cd) (g : Gh) (H : Hp) (σ : Sg) (env : En) (h : Sh) (pos : Pos), GX X c pg tb G C n → okEs c tb false es ees = true → Sim pg.K g h H → EnR pg.K g H env σ →
    SR pg X σ g H (VlRel pg.K) (evAnd C G es env h) (wE X (.BoolOp .And ees pos) σ H) ∧ SR pg X σ g H QB (tru (evAnd C G es env h)) (wT X (.BoolOp .And ees pos) σ H)
  | [], ees, X, c, g, H, σ, env, h, pos, gx, ok, s, en => by
    rw [evAnd]
    exact ⟨trivial, trivial⟩
  | [p], ees, X, c, g, H, σ, env, h, pos, gx, ok, s, en => by
    cases ees with
    | nil => simp [okEs] at ok
    | cons e ees =>
      cases ees with
      | cons _ _ => simp [okEs] at ok
      | nil =>
        simp only [okEs, Bool.and_eq_true] at ok
        obtain ⟨⟨⟨o1, o2⟩, o3⟩, o4⟩ := ok
        have o2 : isPeek p = false := by simpa using o2
        have q := okE_all p _ X c g H σ env h gx o1 s en
        exact SAnd.one (q.vl o2) q.t
  | p :: p2 :: es, ees, X, c, g, H, σ, env, h, pos, gx, ok, s, en => by
    cases ees with
    | nil => simp [okEs] at ok
    | cons e ees =>
      cases ees with
      | nil => simp [okEs] at ok
      | cons e2 ees =>
        rw [okEs, Bool.and_eq_true, Bool.and_eq_true, Bool.and_eq_true] at ok
        obtain ⟨⟨⟨o1, o2⟩, o3⟩, o4⟩ := ok
        have o2 : isPeek p = false := by simpa using o2
        have q := okE_all p _ X c g H σ env h gx o1 s en
        exact SAnd.cons gx (q.vl o2) q.t fun h1 g1 H1 s1 p1 => okAnd_all (p2 :: es) _ X c g1 H1 σ env h1 pos gx o4 s1 (en.mono p1)
theorem okOr_all : ∀ (es : List Te) (ees : List Expr) (X : Cx) (c : Cd) (g : Gh) (H : Hp) (σ : Sg) (env : En) (h : Sh) (pos : Pos), GX X c pg tb G C n → okEs c tb false es ees = true → Sim pg.K g h H → EnR pg.K g H env σ →
    SR pg X σ g H (VlRel pg.K) (evOr C G es env h) (wE X (.BoolOp .Or ees pos) σ H) ∧ SR pg X σ g H QB (tru (evOr C G es env h)) (wT X (.BoolOp .Or ees pos) σ H)
  | [], ees, X, c, g, H, σ, env, h, pos, gx, ok, s, en => by
    rw [evOr]
    exact ⟨trivial, trivial⟩
  | [p], ees, X, c, g, H, σ, env, h, pos, gx, ok, s, en => by
    cases ees with
    | nil => simp [okEs] at ok
    | cons e ees =>
      cases ees with
      | cons _ _ => simp [okEs] at ok
      | nil =>
        simp only [okEs, Bool.and_eq_true] at ok
        obtain ⟨⟨⟨o1, o2⟩, o3⟩, o4⟩ := ok
        have o2 : isPeek p = false := by simpa using o2
        have q := okE_all p _ X c g H σ env h gx o1 s en
        exact SOr.one (q.vl o2) q.t
  | p :: p2 :: es, ees, X, c, g, H, σ, env, h, pos, gx, ok, s, en => by
    cases ees with
    | nil => simp [okEs] at ok
    | cons e ees =>
      cases ees with
      | nil => simp [okEs] at ok
      | cons e2 ees =>
        rw [okEs, Bool.and_eq_true, Bool.and_eq_true, Bool.and_eq_true] at ok
        obtain ⟨⟨⟨o1, o2⟩, o3⟩, o4⟩ := ok
        have o2 : isPeek p = false := by simpa using o2
        have q := okE_all p _ X c g H σ env h gx o1 s en
        exact SOr.cons gx (q.vl o2) q.t fun h1 g1 H1 s1 p1 => okOr_all (p2 :: es) _ X c g1 H1 σ env h1 pos gx o4 s1 (en.mono p1)
theorem okCs_all : ∀ (es : List Te) (ees : List Expr) (X : Cx) (c : Cd) (g : Gh) (H : Hp) (σ : Sg) (env : En) (h : Sh), GX X c pg tb G C n → okCs c tb es ees = true → Sim pg.K g h H → EnR pg.K g H env σ → SR pg X σ g H QB (evC C G es env h) (wCs X ees σ H)
  | [], ees, X, c, g, H, σ, env, h, gx, ok, s, en => by
    cases ees with
    | cons _ _ => simp [okCs] at ok
    | nil =>
      rw [evC]
      exact fun Q hQ pins s0 I => wpAny_tests_nil ⟨H, I, hQ true H g s Pres.refl rfl⟩
  | [p], ees, X, c, g, H, σ, env, h, gx, ok, s, en => by
    cases ees with
    | nil => simp [okCs] at ok
    | cons e ees =>
      cases ees with
      | cons _ _ => simp [okCs] at ok
      | nil =>
        simp only [okCs] at ok
        have q := (okE_all p _ X c g H σ env h gx ok s en).t
        have e1 : evC C G [p] env h = tru (evE C G p env h) := by
          rw [evC]
          unfold tru
          cases evE C G p env h with
          | no => rfl
          | ex _ _ => rfl
          | ok x h1 =>
            show (match truV x with | some true => evC C G [] env h1 | some false => .ok false h1 | none => .no) = (match truV x with | some b => R.ok b h1 | none => .no)
            cases truV x with
            | none => rfl
            | some k => cases k with
              | true => rw [evC]
              | false => rfl
        rw [e1]
        exact q.imp fun Q hq pins s0 I => wpAny_tests_one (hq pins s0 I)
  | p :: p2 :: es, ees, X, c, g, H, σ, env, h, gx, ok, s, en => by
    rcases ees with _ | ⟨e1, _ | ⟨e2, er⟩⟩ <;> simp [okCs] at ok
theorem okL_all : ∀ (l : Tl) (e : Expr) (X : Cx) (c : Cd) (g : Gh) (H : Hp) (σ : Sg) (env : En) (h : Sh), GX X c pg tb G C n → okL c tb l e = true → Sim pg.K g h H → EnR pg.K g H env σ → SR pg X σ g H (NwR pg.K H) (evL C G l env h) (wE X e σ H)
  | .disp es, e, X, c, g, H, σ, env, h, gx, ok, s, en => by
    unfold okL at ok
    split at ok
    all_goals first | (cases ok; done) | (rename_i hq; cases hq; done) | skip
    rename_i hq
    cases hq
    exact SL.disp (okEs_all es false _ X c g H σ env h gx ok s en)
  | .cat a b, e, X, c, g, H, σ, env, h, gx, ok, s, en => by
    unfold okL at ok
    split at ok
    all_goals first | (cases ok; done) | (rename_i hq; cases hq; done) | skip
    rename_i hq
    cases hq
    rw [Bool.and_eq_true] at ok
    exact SL.cat gx pk_of pk_of (okE_all a _ X c g H σ env h gx ok.1 s en).v (fun h1 g1 H1 s1 p1 => (okE_all b _ X c g1 H1 σ env h1 gx ok.2 s1 (en.mono p1)).v)
  | .comp elt tg k es cs, e, X, c, g, H, σ, env, h, gx, ok, s, en => by
    unfold okL at ok
    split at ok
    all_goals first | (cases ok; done) | (rename_i hq; cases hq; done) | skip
    rename_i hq
    cases hq
    simp only [Bool.and_eq_true] at ok
    obtain ⟨⟨⟨⟨⟨⟨o1, o2⟩, o3⟩, o4⟩, o5⟩, o6⟩, o7⟩ := ok
    have ns := itB_noSet o4
    exact SL.comp gx o1 o2 (of_decide_eq_true o3) ns s en
      (SI.all gx o4 ⟨_, o2⟩ (fun ees oe => okEs_all es false ees X c g H σ env h gx oe s en) (fun e hp oe => okOne_all es e X c g H σ env h gx oe s en))
      (fun X' gx' env h σ g H s en => okCs_all cs _ X' _ g H σ env h gx' o5 s en)
      (fun X' gx' env h σ g H s en => (okE_all elt _ X' _ g H σ env h gx' o6 s en).vl (npk o7))
end
end
end Mi
/-! Mi: statements: states and ends. -/
namespace Mi
open PySem PySem.Spec PyProof.Rows L2

/-- from the def's entry at g0 H0, and from a later ghost gb -/
structure PZ (g0 : Gh) (H0 : Hp) (gb g : Gh) (H : Hp) : Prop where
  pre : Pres g0 H0 g H
  zm : ∀ a o, gb.Z a = some o → g.Z a = some o
theorem PZ.trans {g0 gb g g' : Gh} {H0 H H' : Hp} (p : PZ g0 H0 gb g H) (q : Pres g H g' H') : PZ g0 H0 gb g' H' := ⟨p.pre.trans q, fun a o e => q.z a o (p.zm a o e)⟩
theorem PZ.apart {g0 gb g : Gh} {H0 H : Hp} (p : PZ g0 H0 gb g H) {a : Addr} (n0 : H0 a = none) (o : HO) : PZ g0 H0 gb g (upd H a o) := ⟨p.pre.apart n0 o, p.zm⟩
theorem PZ.freezeNew {g0 gb g : Gh} {H0 H : Hp} {a : Addr} {vs : List V} (p : PZ g0 H0 gb g H) (z : g.Z a = none) (n0 : H0 a = none) : PZ g0 H0 gb ⟨upd g.Z a (.lst vs), g.ι⟩ H := ⟨p.pre.freezeNew z n0, fun b o e => by
  have q' := p.zm b o e
  show upd g.Z a (.lst vs) b = some o
  rw [upd_ne (fun y => by rw [y, z] at q'; cases q')]
  exact q'⟩
/-- a state within a def that was entered at g0 H0 -/
structure St (pg : Pg) (g0 : Gh) (H0 : Hp) (gb : Gh) (τ : Option Sg) (g : Gh) (H : Hp) (h : Sh) (env : En) (σ : Sg) : Prop where
  sim : Sim pg.K g h H
  pz : PZ g0 H0 gb g H
  en : EnR pg.K g H env σ
  fr : ∀ (i : Nat) xs a, env[i]? = some (.own xs) → σ[i]? = some (some (.ref a)) → H0 a = none
  ts : ∀ s, τ = some s → σ = s
structure PQ (g0 : Gh) (H0 : Hp) (gb : Gh) (τ : Option Sg) (g : Gh) (H : Hp) (σ : Sg) : Prop where
  pz : PZ g0 H0 gb g H
  ts : ∀ s, τ = some s → σ = s
theorem St.pt {pg : Pg} {g0 gb g : Gh} {τ : Option Sg} {H0 H : Hp} {h : Sh} {env : En} {σ : Sg} (st : St pg g0 H0 gb τ g H h env σ) : PQ g0 H0 gb τ g H σ := ⟨st.pz, st.ts⟩
theorem St.pre {pg : Pg} {g0 gb g : Gh} {τ : Option Sg} {H0 H : Hp} {h : Sh} {env : En} {σ : Sg} (st : St pg g0 H0 gb τ g H h env σ) : Pres g0 H0 g H := st.pz.pre
/-- own lists stand in the heap -/
def OwnIn (Hs : Hp) (env : En) (σ : Sg) : Prop := ∀ (i : Nat) xs a, env[i]? = some (.own xs) → σ[i]? = some (some (.ref a)) → Hs a ≠ none
theorem EnR.ownIn {K : PySem.W.Frag} {g : Gh} {H : Hp} {env : En} {σ : Sg} (r : EnR K g H env σ) : OwnIn H env σ := fun i xs a e e2 z => by
  obtain ⟨o, e3, b, vs, rfl, hH, _⟩ := r.at_ i _ e
  rw [e2] at e3
  cases e3
  rw [z] at hH
  cases hH

def SO (pg : Pg) (X : Cx) (g0 : Gh) (H0 : Hp) (gb : Gh) (τ : Option Sg) (r : R Out) (w : Ends → Prop) : Prop :=
  match r with
  | .ok (.nx env') h' => ∀ D : Ends, (∀ σ' H' g', St pg g0 H0 gb τ g' H' h' env' σ' → D.nx σ' H') → w D
  | .ok (.bk env') h' => ∀ D : Ends, (∀ σ' H' g', St pg g0 H0 gb τ g' H' h' env' σ' → D.bk σ' H') → w D
  | .ok (.ct env') h' => ∀ D : Ends, (∀ σ' H' g', St pg g0 H0 gb τ g' H' h' env' σ' → D.ct σ' H') → w D
  | .ok (.rt x) h' => ∀ D : Ends, (∀ v H' g', Sim pg.K g' h' H' → PZ g0 H0 gb g' H' → VlR pg.K g' x v → D.rt v H') → w D
  | .ex e h' => ∀ W : WX, Takes X W → (∀ cls dx σ' H' g', Sim pg.K g' h' H' → PQ g0 H0 gb τ g' H' σ' → ErR pg e cls dx H' g' → W cls dx σ' H') → ∀ D, w D
  | .no => True

section
variable {pg : Pg} {X : Cx} {g g0 gb : Gh} {τ : Option Sg} {H H0 : Hp} {α β : Type} {h : Sh} {env : En} {σ : Sg}
theorem SO.imp {r : R Out} {w w' : Ends → Prop} (q : SO pg X g0 H0 gb τ r w) (c : ∀ D, w D → w' D) : SO pg X g0 H0 gb τ r w' := by
  cases r with
  | no => exact trivial
  | ex e h' => exact fun W tk hW D => c D (q W tk hW D)
  | ok o h' => cases o <;> exact fun D hD => c D (q D hD)
theorem SO.bindE {Rl : Gh → Hp → α → β → Prop} {r : R α} {f : α → Sh → R Out} {w : (β → Hp → Prop) → Prop} {w2 : β → Hp → Ends → Prop} {w3 : Ends → Prop} (q : SR pg X σ g H Rl r w) (p0 : PQ g0 H0 gb τ g H σ)
    (comb : ∀ D, w (fun b H' => w2 b H' D) → w3 D)
    (k : ∀ a h' b H' g', r = .ok a h' → Sim pg.K g' h' H' → Pres g H g' H' → Rl g' H' a b → SO pg X g0 H0 gb τ (f a h') (w2 b H')) : SO pg X g0 H0 gb τ (r.bind f) w3 := by
  cases r with
  | no => exact trivial
  | ex e h' => exact fun W tk hW D => comb D (q W tk (fun cls dx H' g' s p e => hW cls dx σ H' g' s ⟨p0.pz.trans p, p0.ts⟩ e) _)
  | ok a h' =>
    show SO pg X g0 H0 gb τ (f a h') w3
    have k' := k a h'
    cases hf : f a h' with
    | no => exact trivial
    | ex e h2 =>
      refine fun W tk hW D => comb D (q _ fun b H' g' s p r => ?_)
      have := k' b H' g' rfl s p r
      rw [hf] at this
      exact this W tk hW D
    | ok o h2 =>
      cases o <;>
      · refine fun D hD => comb D (q _ fun b H' g' s p r => ?_)
        have := k' b H' g' rfl s p r
        rw [hf] at this
        exact this D hD
theorem SO.nx {env' : En} {h' : Sh} {w : Ends → Prop} (st : St pg g0 H0 gb τ g H h' env' σ) (c : ∀ D : Ends, D.nx σ H → w D) : SO pg X g0 H0 gb τ (.ok (.nx env') h') w := fun D hD => c D (hD σ H g st)
theorem SO.cons {r : R Out} {f : En → Sh → R Out} {st : Stmt} {rest : List Stmt} (q : SO pg X g0 H0 gb τ r fun D => wS X st D σ H)
    (k : ∀ env' h' σ' H' g', r = .ok (.nx env') h' → St pg g0 H0 gb τ g' H' h' env' σ' → SO pg X g0 H0 gb τ (f env' h') fun D => wSs X rest D σ' H') :
    SO pg X g0 H0 gb τ (r.bind fun o h1 => match o with | .nx e => f e h1 | o => .ok o h1) fun D => wSs X (st :: rest) D σ H := by
  have comb : ∀ D, wS X st { D with nx := fun σ' H' => wSs X rest D σ' H' } σ H → wSs X (st :: rest) D σ H := fun D hq => wSs_of (pss_cons ps_w pss_w) hq
  cases r with
  | no => exact trivial
  | ex e h' => exact fun W tk hW D => comb D (q W tk hW _)
  | ok o h' =>
    cases o with
    | nx env' =>
      show SO pg X g0 H0 gb τ (f env' h') _
      have k' := k env' h'
      cases hf : f env' h' with
      | no => exact trivial
      | ex e h2 =>
        refine fun W tk hW D => comb D (q _ fun σ' H' g' st => ?_)
        have := k' σ' H' g' rfl st
        rw [hf] at this
        exact this W tk hW D
      | ok o h2 =>
        cases o <;>
        · refine fun D hD => comb D (q _ fun σ' H' g' st => ?_)
          have := k' σ' H' g' rfl st
          rw [hf] at this
          exact this D hD
    | bk env' => exact fun D hD => comb D (q _ hD)
    | ct env' => exact fun D hD => comb D (q _ hD)
    | rt v => exact fun D hD => comb D (q _ hD)

/-! ### states that change -/
theorem St.later {g' : Gh} {H' : Hp} {h' : Sh} (st : St pg g0 H0 gb τ g H h env σ) (s : Sim pg.K g' h' H') (p : Pres g H g' H') : St pg g0 H0 gb τ g' H' h' env σ := ⟨s, st.pz.trans p, st.en.mono p, st.fr, st.ts⟩
/-- the later ghost anew -/
theorem St.rebase (st : St pg g0 H0 gb τ g H h env σ) : St pg g0 H0 g τ g H h env σ := ⟨st.sim, ⟨st.pre, fun _ _ e => e⟩, st.en, st.fr, st.ts⟩
theorem St.earlier {g1 : Gh} (st : St pg g0 H0 g1 τ g H h env σ) (m : ∀ a o, gb.Z a = some o → g1.Z a = some o) : St pg g0 H0 gb τ g H h env σ := ⟨st.sim, ⟨st.pre, fun a o e => st.pz.zm a o (m a o e)⟩, st.en, st.fr, st.ts⟩
theorem set_self {α : Type} {l : List α} {i : Nat} {x y : α} (e : (l.set i x)[i]? = some y) : y = x := by
  have hl : i < l.length := by
    have := (List.getElem?_eq_some_iff.mp e).1
    rw [List.length_set] at this
    exact this
  rw [List.getElem?_set_self hl] at e
  cases e; rfl
theorem EnR.setOwn {K : PySem.W.Frag} {Hs : Hp} {xs : List PyData} {a : Addr} {vs : List V} (r : EnR K g H env σ) (ow : OwnIn Hs env σ) {i : Nat} (e : H a = some (.lst vs)) (z : g.Z a = none) (ni : a ∉ g.ι) (rl : RpL K g.Z xs vs) (n0 : Hs a = none) :
    EnR K g H (env.set i (.own xs)) (σ.set i (some (.ref a))) := by
  refine ⟨by rw [List.length_set, List.length_set]; exact r.len, fun j s e1 => ?_, fun j k ys zs b e1 e2 e3 e4 => ?_⟩
  · by_cases hj : j = i
    · subst hj
      have hl : j < env.length := by
        have := (List.getElem?_eq_some_iff.mp e1).1
        rw [List.length_set] at this
        exact this
      cases set_self e1
      exact ⟨some (.ref a), by rw [List.getElem?_set_self (by rw [← r.len]; exact hl)], a, vs, rfl, e, z, ni, rl⟩
    · rw [List.getElem?_set_ne (Ne.symm hj)] at e1
      obtain ⟨o, q1, q2⟩ := r.at_ j s e1
      exact ⟨o, by rw [List.getElem?_set_ne (Ne.symm hj)]; exact q1, q2⟩
  · by_cases hj : j = i
    · by_cases hk : k = i
      · rw [hj, hk]
      · subst hj
        rw [List.getElem?_set_ne (Ne.symm hk)] at e2 e4
        have := set_self e3
        cases this
        exact (ow k _ _ e2 e4 n0).elim
    · by_cases hk : k = i
      · subst hk
        rw [List.getElem?_set_ne (Ne.symm hj)] at e1 e3
        have := set_self e4
        cases this
        exact (ow j _ _ e1 e3 n0).elim
      · rw [List.getElem?_set_ne (Ne.symm hj)] at e1 e3
        rw [List.getElem?_set_ne (Ne.symm hk)] at e2 e4
        exact r.dist j k _ _ b e1 e2 e3 e4
/-- a place that was free is still free of the def's entry -/
theorem fresh0 {a : Addr} (p : Pres g0 H0 g H) (n : H a = none) (ni : a ∉ g.ι) : H0 a = none := by
  cases e : H0 a with
  | none => rfl
  | some u =>
    by_cases m : a ∈ g0.ι
    · obtain ⟨t, et⟩ := p.i
      exact (ni (by rw [et]; exact List.mem_append_left _ m)).elim
    · have := (p.k a u e m).1
      rw [n] at this; cases this
theorem St.setOwn (hτ : τ = none) {g' : Gh} {H' : Hp} {h' : Sh} {xs : List PyData} {v : V} (st : St pg g0 H0 gb τ g H h env σ) (s : Sim pg.K g' h' H') (p : Pres g H g' H') (r : NwR pg.K H g' H' xs v) (i : Nat) : St pg g0 H0 gb τ g' H' h' (env.set i (.own xs)) (σ.set i (some v)) := by
  obtain ⟨a, vs, rfl, hH, z, ni, rl, n0⟩ := r
  have ni0 : a ∉ g.ι := fun m => by
    obtain ⟨t, et⟩ := p.i
    exact ni (by rw [et]; exact List.mem_append_left _ m)
  refine ⟨s, st.pz.trans p, (st.en.mono p).setOwn st.en.ownIn hH z ni rl n0, fun j ys b e1 e2 => ?_, fun s e => by rw [hτ] at e; cases e⟩
  by_cases hj : j = i
  · subst hj
    have := set_self e2
    cases this
    exact fresh0 st.pre n0 ni0
  · rw [List.getElem?_set_ne (Ne.symm hj)] at e1 e2
    exact st.fr j ys b e1 e2
theorem St.set (hτ : τ = none) (st : St pg g0 H0 gb τ g H h env σ) {x : Vl} {v : V} (r : VlR pg.K g x v) (i : Nat) : St pg g0 H0 gb τ g H h (env.set i (.v x)) (σ.set i (some v)) := by
  refine ⟨st.sim, st.pz, st.en.set r, fun j ys b e1 e2 => ?_, fun s e => by rw [hτ] at e; cases e⟩
  by_cases hj : j = i
  · subst hj
    have := set_self e1
    cases this
  · rw [List.getElem?_set_ne (Ne.symm hj)] at e1 e2
    exact st.fr j ys b e1 e2
/-- the frame's own list is changed -/
theorem St.chg (st : St pg g0 H0 gb τ g H h env σ) {i : Nat} {xs ys : List PyData} {a : Addr} {ws : List V} (e : env[i]? = some (.own xs)) (e2 : σ[i]? = some (some (.ref a))) (r : RpL pg.K g.Z ys ws) : St pg g0 H0 gb τ g (upd H a (.lst ws)) h (env.set i (.own ys)) σ := by
  obtain ⟨o, e3, b, vs, rfl, hH, z, ni, rl⟩ := st.en.at_ i _ e
  rw [e2] at e3
  cases e3
  have hi : i < env.length := (List.getElem?_eq_some_iff.mp e).1
  refine ⟨st.sim.apart z ni _, st.pz.apart (st.fr i xs a e e2) _, ⟨by rw [List.length_set]; exact st.en.len, fun j s e1 => ?_, fun j k us zs b e1 e2' e3 e4 => ?_⟩, fun j us b e1 e3 => ?_, st.ts⟩
  · by_cases hj : j = i
    · subst hj
      have := set_self e1
      subst this
      exact ⟨_, e2, a, ws, rfl, upd_same, z, ni, r⟩
    · rw [List.getElem?_set_ne (Ne.symm hj)] at e1
      obtain ⟨o, q1, q2⟩ := st.en.at_ j s e1
      refine ⟨o, q1, ?_⟩
      cases s with
      | no => trivial
      | v x => exact q2
      | own us =>
        obtain ⟨b, vs2, rfl, hb, zb, nb, rb⟩ := q2
        have hne : b ≠ a := fun y => by
          subst y
          exact hj (st.en.dist j i _ _ b e1 e q1 e2)
        exact ⟨b, vs2, rfl, by rw [upd_ne hne]; exact hb, zb, nb, rb⟩
  · have key : ∀ {j : Nat} {us : List PyData}, (env.set i (.own ys))[j]? = some (.own us) → ∃ us', env[j]? = some (.own us') := fun {j us} e1 => by
      by_cases hj : j = i
      · subst hj; exact ⟨xs, e⟩
      · rw [List.getElem?_set_ne (Ne.symm hj)] at e1; exact ⟨us, e1⟩
    obtain ⟨_, f1⟩ := key e1
    obtain ⟨_, f2⟩ := key e2'
    exact st.en.dist j k _ _ b f1 f2 e3 e4
  · by_cases hj : j = i
    · subst hj; exact st.fr j xs b e e3
    · rw [List.getElem?_set_ne (Ne.symm hj)] at e1
      exact st.fr j us b e1 e3
/-- .. it never changes again -/
theorem St.freeze (st : St pg g0 H0 gb τ g H h env σ) {i : Nat} {xs : List PyData} (e : env[i]? = some (.own xs)) : ∃ g', St pg g0 H0 gb τ g' H h (env.set i (.v (.d (.list xs)))) σ := by
  obtain ⟨o, e2, a, vs, rfl, hH, z, ni, rl⟩ := st.en.at_ i _ e
  obtain ⟨s2, zm⟩ := st.sim.freeze hH z ni
  have hi : i < env.length := (List.getElem?_eq_some_iff.mp e).1
  have own : ∀ {j : Nat} {us : List PyData}, (env.set i (.v (.d (.list xs))))[j]? = some (.own us) → j ≠ i ∧ env[j]? = some (.own us) := fun {j us} e1 => by
    by_cases hj : j = i
    · subst hj
      cases set_self e1
    · rw [List.getElem?_set_ne (Ne.symm hj)] at e1
      exact ⟨hj, e1⟩
  refine ⟨⟨upd g.Z a (.lst vs), g.ι⟩, s2, st.pz.freezeNew z (st.fr i xs a e e2), ⟨by rw [List.length_set]; exact st.en.len, fun j s e1 => ?_, fun j k us zs b e1 e2' e3 e4 => ?_⟩, fun j us b e1 e3 => ?_, st.ts⟩
  · by_cases hj : j = i
    · subst hj
      have := set_self e1
      subst this
      refine ⟨_, e2, _, rfl, ?_⟩
      simp only [VlR, Rp]
      exact ⟨a, vs, rfl, by show upd g.Z a _ a = _; rw [upd_same], RpL.mono zm xs vs rl⟩
    · rw [List.getElem?_set_ne (Ne.symm hj)] at e1
      obtain ⟨o, q1, q2⟩ := st.en.at_ j s e1
      refine ⟨o, q1, ?_⟩
      cases s with
      | no => trivial
      | v x =>
        obtain ⟨v, rfl, rv⟩ := q2
        refine ⟨v, rfl, ?_⟩
        cases x with
        | d x => exact Rp.mono zm x v rv
        | ref n => exact rv
        | fn n => exact rv
        | scr ns =>
          obtain ⟨b, e5, q5⟩ := rv
          exact ⟨b, e5, sqL_mono zm q5⟩
      | own us =>
        obtain ⟨b, vs2, rfl, hb, zb, nb, rb⟩ := q2
        have hne : b ≠ a := fun y => by
          subst y
          exact hj (st.en.dist j i _ _ b e1 e q1 e2)
        exact ⟨b, vs2, rfl, hb, by show upd g.Z a _ b = none; rw [upd_ne hne]; exact zb, nb, RpL.mono zm us vs2 rb⟩
  · obtain ⟨h1, f1⟩ := own e1
    obtain ⟨h2, f2⟩ := own e2'
    exact st.en.dist j k _ _ b f1 f2 e3 e4
  · obtain ⟨h1, f1⟩ := own e1
    exact st.fr j us b f1 e3
theorem wipe_ne {σ : Sg} {i : Nat} : ∀ {ws : List Nat}, i ∉ ws → (L2.wipe σ ws)[i]? = σ[i]?
  | [], _ => rfl
  | w :: ws, hn => by
    have hw : w ≠ i := fun e => hn (by rw [e]; exact List.mem_cons_self)
    show ((L2.wipe σ ws).set w none)[i]? = _
    rw [List.getElem?_set_ne hw]
    exact wipe_ne fun m => hn (List.mem_cons_of_mem _ m)
theorem bindIs_own : ∀ {is : List Nat} {xs : List PyData} {env env' : En} {i : Nat} {ys : List PyData}, bindIs is xs env = some env' → env'[i]? = some (.own ys) → i ∉ is ∧ env[i]? = some (.own ys)
  | [], [], env, env', i, ys, e, e1 => by
    simp only [bindIs, Option.some.injEq] at e
    subst e
    exact ⟨List.not_mem_nil, e1⟩
  | j :: is, x :: xs, env, env', i, ys, e, e1 => by
    obtain ⟨n1, e2⟩ := bindIs_own (is := is) e e1
    have hj : i ≠ j := fun z => by
      subst z
      cases set_self e2
    rw [List.getElem?_set_ne (Ne.symm hj)] at e2
    exact ⟨fun m => (List.mem_cons.mp m).elim hj n1, e2⟩
  | [], _ :: _, _, _, _, _, e, _ => by simp [bindIs] at e
  | _ :: _, [], _, _, _, _, e, _ => by simp [bindIs] at e
theorem bindTg_own {tg : Tg} {x : Vl} {env env' : En} {i : Nat} {ys : List PyData} (hs : (∃ is r, tg = .st is r) → False) (e : bindTg tg x env = some env') (e1 : env'[i]? = some (.own ys)) : i ∉ tg.names ∧ env[i]? = some (.own ys) := by
  unfold bindTg at e
  split at e
  · cases e
    rename_i j
    have hj : i ≠ j := fun z => by
      subst z
      cases set_self e1
    rw [List.getElem?_set_ne (Ne.symm hj)] at e1
    exact ⟨fun m => hj (by simpa [Tg.names] using m), e1⟩
  · exact bindIs_own e e1
  · exact bindIs_own e e1
  · exact (hs ⟨_, _, rfl⟩).elim
  · cases e
theorem St.bind (hτ : τ = none) {tg : Tg} {x : Vl} {v : V} {env' : En} {Q : Sg → Hp → Prop} (hs : (∃ is r, tg = .st is r) → False) (st : St pg g0 H0 gb τ g H h env σ) (e : bindTg tg x env = some env') (r : VlR pg.K g x v)
    (q : ∀ σ', St pg g0 H0 gb τ g H h env' σ' → Q σ' H) : gOf pg.K tg v σ H Q :=
  tg_ok hs e st.sim r st.en fun σ' en' wp => q σ' ⟨st.sim, st.pz, en', fun i ys a e1 e2 => by
    obtain ⟨n1, e3⟩ := bindTg_own hs e e1
    refine st.fr i ys a e3 ?_
    have := congrArg (fun l => l[i]?) (wp tg.names fun _ m => m)
    rw [wipe_ne n1, wipe_ne n1] at this
    rw [← this]
    exact e2, fun s e => by rw [hτ] at e; cases e⟩
end
end Mi
/-! Mi: statements: the text beside the terms; the small statements. -/
namespace Mi
open PySem PySem.Spec PyProof.Rows L2

def noComp : Expr → Bool
  | .ListComp .. => false
  | .SetComp .. => false
  | .DictComp .. => false
  | _ => true
def asgB (tg e : Expr) : Bool := noComp e && (match tg, e with
  | .Tuple .., .Tuple vs _ _ => vs.all (foldedForSure 8)
  | _, _ => true)
/-- name = [.. for ..]: on one line (true), on several (false) -/
def swK (c : Cd) (x : Str) (p : Pos) : Expr → Option Bool
  | .ListComp elt gens scope pos =>
    if decide (c.sc.names.lookup x = some .local) && (p.line == pos.line) && !(scope.names.any fun (n, k) => n == x && (k == .local || k == .cell)) then some true
    else if p.line == pos.line then none else some false
  | _ => none
def swB (c : Cd) (x : Str) (p : Pos) (e : Expr) : Bool := noComp e || (swK c x p e).isSome
def nmLoc (c : Cd) (l : Nat) : Nat → Expr → Bool
  | i, .Name x p => decide (c.N[i]? = some x) && decide (c.sc.names.lookup x = some .local) && (p.line == l)
  | _, _ => false
def headLine : List Expr → Nat
  | e :: _ => e.pos.line
  | [] => 0
def nmLocs (c : Cd) (l : Nat) : List Nat → List Expr → Bool
  | [], [] => true
  | i :: is, e :: es => nmLoc c l i e && nmLocs c l is es
  | _, _ => false
def parB (c : Cd) (is : List Nat) (ts vs : List Expr) : Bool :=
  (is.length == 2 || is.length == 3) && (vs.length == is.length) && decide is.Nodup && nmLocs c (headLine ts) is ts && noStars vs && !(vs.all (foldedForSure 8)) && !(vs.all (constantsAlone 8))
def okX (c : Cd) (tb : Tb) : Tm → Expr → Bool
  | .e p, e => okE c tb p e && !isPeek p
  | .l l, e => okL c tb l e
def okXs (c : Cd) (tb : Tb) : List Tm → List Expr → Bool
  | [], [] => true
  | t :: ts, e :: es => okX c tb t e && noStar e && okXs c tb ts es
  | _, _ => false
def okHt (c : Cd) (tb : Tb) (i : Nat) : Ht → Expr → Bool
  | .isx k cls, .Call (.Name x _) [.Name y _, .Name z _] [] _ => decide (x = ("isinstance" : Str)) && glB c x && decide (c.N[i]? = some y) && visB c.sc y && plainName y && glB c z && decide (tb.cs k = some z) && decide (cls = (List.range tb.nc).filter fun j => tb.sub j k)
  | .and a b, .BoolOp .And [a', b'] _ => okHt c tb i a a' && okHt c tb i b b'
  | .or a b, .BoolOp .Or [a', b'] _ => okHt c tb i a a' && okHt c tb i b b'
  | .not a, .UnaryOp .Not a' _ => okHt c tb i a a'
  | _, _ => false
def okH (c : Cd) (tb : Tb) (i : Nat) : He → Expr → Bool
  | .cst d, .Constant k _ _ => cstB d k
  | .ite t a b, .IfExp t' a' b' _ => okHt c tb i t t' && okH c tb i a a' && okH c tb i b b'
  | _, _ => false
mutual
/-- nothing is stored -/
def noAsg : Ts → Bool
  | .ret _ => true
  | .retN => true
  | .expr _ => true
  | .doc => true
  | .pass => true
  | .raise _ => true
  | .iff _ a b => noAsgs a && noAsgs b
  | _ => false
def noAsgs : List Ts → Bool
  | [] => true
  | s :: ss => noAsg s && noAsgs ss
end
mutual
def okT (c : Cd) (tb : Tb) : Ts → Stmt → Bool
  | .doc, .Expr (.Constant (.str _) _ _) _ => true
  | .asg (.st [i] r) e, .Assign [.Tuple [.Name x _, .Starred (.Name y _) _] _ _] (.Name z p) _ => stB c i x && stB c r y && okE c tb e (.Name z p) && !isPeek e
  | .asg tg e, .Assign [tg'] e' _ => tgB c tg tg' && okE c tb e e' && !isPeek e && asgB tg' e'
  | .own i l, .Assign [.Name x p] e' _ => stB c i x && okL c tb l e' && swB c x p e'
  | .par is ts, .Assign [.Tuple ts' _ _] (.Tuple vs' _ _) _ => parB c is ts' vs' && okXs c tb ts vs'
  | .aug i op e, .AugAssign (.Name x _) op' e' _ => stB c i x && decide (op = op') && (decide (op = .Add) || decide (op = .Sub)) && okE c tb e e' && !isPeek e
  | .setix r i e, .Assign [.Subscript r' i' _] e' _ => okE c tb r r' && okE c tb i i' && okE c tb e e' && noSlice i' && noComp e' && !isPeek r && !isPeek i && !isPeek e
  | .ownix s i e, .Assign [.Subscript (.Name x _) i' _] e' _ => nmB c s x && okE c tb i i' && okE c tb e e' && noSlice i' && noComp e' && !isPeek i && !isPeek e
  | .app s e, .Expr (.Call (.Attribute (.Name x _) nm ap) [e'] [] cp) _ => decide (nm = ("append" : Str)) && nmB c s x && okE c tb e e' && !isPeek e && noStar e' && (ap.endLine == cp.line)
  | .ext s e, .Expr (.Call (.Attribute (.Name x _) nm ap) [e'] [] cp) _ => decide (nm = ("extend" : Str)) && nmB c s x && okE c tb e e' && noStar e' && (ap.endLine == cp.line)
  | .expr e, .Expr e' _ => okE c tb e e' && noComp e'
  | .ret e, .Return (some e') _ => okE c tb e e' && !isPeek e
  | .retN, .Return none _ => true
  | .iff t a b, .If t' a' b' _ => okE c tb t t' && okTs c tb a a' && okTs c tb b b'
  | .for tg k es body, .For tg' it' body' [] _ => tgB c tg tg' && itB c (okEs c tb false es) tg k it' && okTs c tb body body'
  | .while t body, .While t' body' [] _ => okE c tb t t' && okTs c tb body body'
  | .raise k, .Raise (some (.Call (.Name x _) [.Constant (.str _) _ _] [] _)) none _ => glB c x && decide (tb.cs k = some x)
  | .tryE body k cls i hd, .Try body' [.ExceptHandler (some (.Name x _)) (some n) [.Return (some e') _] _] [] [] _ => okTs c tb body body' && noAsgs body && glB c x && decide (tb.cs k = some x) && decide (cls = (List.range tb.nc).filter fun j => tb.sub j k) &&
      decide (c.N[i]? = some n) && decide (c.sc.names.lookup n = some .local) && okH c tb i hd e'
  | .brk, .Break _ => true
  | .cont, .Continue _ => true
  | .pass, .Pass _ => true
  | _, _ => false
def okTs (c : Cd) (tb : Tb) : List Ts → List Stmt → Bool
  | [], [] => true
  | .freeze _ :: ss, sts => okTs c tb ss sts
  | s :: ss, st :: sts => okT c tb s st && okTs c tb ss sts
  | _, _ => false
end

section
variable {pg : Pg} {tb : Tb} {G : Nat → Option PyData} {C : Cf} {n : Nat} {X : Cx} {c : Cd} {g g0 gb : Gh} {τ : Option Sg} {H H0 : Hp} {σ : Sg} {h : Sh} {env : En} {W : Nat}

theorem sw_false {e : Expr} {t : Option Expr} {l : Nat} {env : Env} (hc : noComp e = true) : swapsWith e t l env = pure false := by
  cases e <;> first | rfl | cases hc
theorem GX.bk (gx : GX X c pg tb G C n) : X.env.blockKind = .function := by
  unfold Env.blockKind
  rw [gx.sc, gx.kd]
  rfl
theorem sw_lines {elt : Expr} {gs : List Comprehension} {scope : Scope} {pos py : Pos} {y : Str} {l : Nat} {env : Env} (hl : (py.line == pos.line) = false) : swapsWith (.ListComp elt gs scope pos) (some (.Name y py)) l env = pure false := by
  unfold swapsWith
  simp only [Expr.pos, hl, Bool.and_false, Bool.false_and]

theorem SO.doc {x : Str} {j : Nat} {p pos : Pos} (st : St pg g0 H0 gb τ g H h env σ) : SO pg X g0 H0 gb τ (evS C G W .doc env h) (fun D => wS X (.Expr (.Constant (.str x) j p) pos) D σ H) := by
  rw [evS]
  exact SO.nx st fun D hd => wS_of ps_doc hd
theorem SO.asg (hτ : τ = none) {tg : Tg} {e : Te} {tg' e' : Expr} {pos : Pos} (gx : GX X c pg tb G C n) (st : St pg g0 H0 gb τ g H h env σ) (ot : tgB c tg tg' = true) (oe : okE c tb e e' = true) (np : isPeek e = false) (oa : asgB tg' e' = true) :
    SO pg X g0 H0 gb τ (evS C G W (.asg tg e) env h) (fun D => wS X (.Assign [tg'] e' pos) D σ H) := by
  rw [evS]
  have nst : (∃ is r, tg = .st is r) → False := fun ⟨is, r, e⟩ => by subst e; cases tg' <;> cases ot
  unfold asgB at oa
  rw [Bool.and_eq_true] at oa
  obtain ⟨nc, oa⟩ := oa
  have hs : swapsWithSole [tg'] e' pos.line X.env = pure false := sw_false nc
  have hw : swappedStores [tg'] e' X.env = pure none := by
    cases tg <;> cases tg' <;> simp only [tgB] at ot <;> try cases ot
    · rfl
    · rename_i ts k p _
      cases e' <;> first | rfl | skip
      rename_i vs k2 p2
      have oa : vs.all (foldedForSure 8) = true := oa
      unfold swappedStores
      simp only [oa]
      split
      · rfl
      · split
        · rfl
        · split
          · rfl
          · rfl
  have h1 : (assignEach [tg'] X.env).map (·.2) = [assign tg' X.env] := by
    cases tg <;> cases tg' <;> simp only [tgB] at ot <;> first | rfl | cases ot
  refine SO.bindE (w2 := fun v H1 D => gOf pg.K tg v σ H1 D.nx) ((okE_all e _ X c g H σ env h gx oe st.sim st.en).vl np) st.pt (fun D hq => wS_of (ps_asg pe_w (pg_of gx ot) hs hw h1) hq) fun x h1 v H1 g1 _ s1 p1 r1 => ?_
  cases eb : bindTg tg x env with
  | none => exact trivial
  | some env' => exact fun D hD => (st.later s1 p1).bind hτ nst eb r1 fun σ' st' => hD σ' H1 g1 st'
theorem okLT {elt : Te} {tg : Tg} {k : Mi.It} {es cs : List Te} {elt' tg' it' : Expr} {ifs' : List Expr} {scope : Scope} {pos py spos : Pos} {i : Nat} {x : Str} (gx : GX X c pg tb G C n) (ok : okL c tb (.comp elt tg k es cs) (.ListComp elt' [⟨tg', it', ifs', 0⟩] scope pos) = true) (s : Sim pg.K g h H) (en : EnR pg.K g H env σ)
    (ost : stB c i x = true) (c1 : c.sc.names.lookup x = some .local) (c2 : (py.line == pos.line) = true) (c3 : (scope.names.any fun (n, k) => n == x && (k == .local || k == .cell)) = false) :
    ∃ te : TE, PS X (.Assign [.Name x py] (.ListComp elt' [⟨tg', it', ifs', 0⟩] scope pos) spos) (tAsg te (gName i)) ∧ SR pg X σ g H (NwR pg.K H) (evL C G (.comp elt tg k es cs) env h) (te σ H) := by
  simp only [okL, Bool.and_eq_true] at ok
  obtain ⟨⟨⟨⟨⟨⟨o1, o2⟩, o3⟩, o4⟩, o5⟩, o6⟩, o7⟩ := ok
  have ns := itB_noSet o4
  have q := SL.compT (pos := pos) gx o1 o2 (of_decide_eq_true o3) ns s en
      (SI.all gx o4 ⟨_, o2⟩ (fun ees oe => okEs_all es false ees X c g H σ env h gx oe s en) (fun e hp oe => okOne_all es e X c g H σ env h gx oe s en))
      (fun X' gx' env h σ g H s en => okCs_all cs _ X' _ g H σ env h gx' o5 s en)
      (fun X' gx' env h σ g H s en => (okE_all elt _ X' _ g H σ env h gx' o6 s en).vl (npk o7))
  have blk := blkOk_by o1
  obtain ⟨t1, t2, t3⟩ := stB_of gx ost
  have hyl : X.env.scope.names.lookup x = some .local := by rw [gx.sc]; exact c1
  have rule := ps_setLc (X := X) (i := i) (py := py) (spos := spos) (pos := pos) (elt := elt') (tg := tg') (iter := it') (ifs := ifs') (g := gOf pg.K tg)
    (tt := fun σ H Q => ∀ s0 H0 C0 cl fp, wCs (X.blk s0 H0 scope (compEnvC scope cl C0 X.env) fp) ifs' σ H Q) (te := fun σ H Q => ∀ s0 H0 C0 cl fp, wE (X.blk s0 H0 scope (compEnvC scope cl C0 X.env) fp) elt' σ H Q)
    gx.calm (by rw [gx.N]; exact gx.nd) t1 hyl (sw_true (by rw [gx.sc]; exact gx.kd) hyl c2 c3) pi_w (by rw [gx.N, gx.sc]; exact blk) (fun s0 H0 C0 cl fp => pg_of (gx.blk blk.kind s0 H0 C0 cl fp) o2) (fun s0 H0 C0 cl fp => ⟨fun pins s σ H Q I q => q s0 H0 C0 cl fp pins s I⟩)
    (fun s0 H0 C0 cl fp => ⟨fun pins s σ H Q I q => q s0 H0 C0 cl fp pins s I⟩) (folded_of ns)
  rw [of_decide_eq_true o3] at rule
  exact ⟨_, rule, q⟩
theorem okL_gens {elt : Te} {tg : Tg} {k : Mi.It} {es cs : List Te} {elt' : Expr} {gens : List Comprehension} {scope : Scope} {pos : Pos} (ok : okL c tb (.comp elt tg k es cs) (.ListComp elt' gens scope pos) = true) : ∃ tg' it' ifs', gens = [⟨tg', it', ifs', 0⟩] := by
  unfold okL at ok
  split at ok
  all_goals first | (cases ok; done) | (rename_i hq; cases hq; done) | skip
  · rename_i hq1 hq2
    cases hq2
    exact ⟨_, _, _, rfl⟩
theorem ownRule {l : Tl} {e' : Expr} {py spos : Pos} {i : Nat} {x : Str} (gx : GX X c pg tb G C n) (ok : okL c tb l e' = true) (s : Sim pg.K g h H) (en : EnR pg.K g H env σ) (ost : stB c i x = true) (osw : swB c x py e' = true) :
    ∃ te : TE, PS X (.Assign [.Name x py] e' spos) (tAsg te (gName i)) ∧ SR pg X σ g H (NwR pg.K H) (evL C G l env h) (te σ H) := by
  obtain ⟨t1, t2, t3⟩ := stB_of gx ost
  have plain : swapsWith e' (some (.Name x py)) spos.line X.env = pure false → ∃ te : TE, PS X (.Assign [.Name x py] e' spos) (tAsg te (gName i)) ∧ SR pg X σ g H (NwR pg.K H) (evL C G l env h) (te σ H) := fun hs =>
    ⟨_, ps_set (by rw [gx.N]; exact gx.nd) t1 t2 pe_w hs t3, okL_all l e' X c g H σ env h gx ok s en⟩
  unfold swB at osw
  rw [Bool.or_eq_true] at osw
  rcases osw with nc | hk
  · exact plain (sw_false nc)
  · unfold swK at hk
    split at hk
    · split at hk
      · rename_i cond
        rw [Bool.and_eq_true, Bool.and_eq_true] at cond
        obtain ⟨⟨c1, c2⟩, c3⟩ := cond
        cases l with
        | disp es => cases ok
        | cat a b => cases ok
        | comp elt tg k es cs =>
          obtain ⟨tg', it', ifs', rfl⟩ := okL_gens ok
          exact okLT gx ok s en ost (of_decide_eq_true c1) c2 (by simpa using c3)
      · split at hk
        · cases hk
        · rename_i hl
          exact plain (sw_lines (by simpa using hl))
    · cases hk
theorem SO.own (hτ : τ = none) {l : Tl} {e' : Expr} {py pos : Pos} {i : Nat} {x : Str} (gx : GX X c pg tb G C n) (st : St pg g0 H0 gb τ g H h env σ) (ost : stB c i x = true) (ok : okL c tb l e' = true) (osw : swB c x py e' = true) :
    SO pg X g0 H0 gb τ (evS C G W (.own i l) env h) (fun D => wS X (.Assign [.Name x py] e' pos) D σ H) := by
  rw [evS]
  obtain ⟨te, rule, q⟩ := ownRule (spos := pos) gx ok st.sim st.en ost osw
  refine SO.bindE (w2 := fun v H1 D => D.nx (σ.set i (some v)) H1) q st.pt (fun D hq => wS_of rule hq) fun xs h1 v H1 g1 _ s1 p1 r1 => ?_
  exact SO.nx (st.setOwn hτ s1 p1 r1 i) fun D hd => hd

/-! ### a, b = x, y -/
def XsR (K : PySem.W.Frag) (g : Gh) (H : Hp) : Hp → List Sl → List V → Prop
  | _, [], vs => vs = []
  | Hs, s :: r, vs => ∃ v t H1, vs = v :: t ∧ (∃ o, s ≠ .no ∧ o = some v ∧ SlR K g H s o) ∧ (∀ xs a, s = .own xs → v = .ref a → Hs a = none ∧ H1 a ≠ none) ∧ (∀ a, Hs a ≠ none → H1 a ≠ none) ∧ XsR K g H H1 r t
theorem XsR.mono {K : PySem.W.Frag} {g' : Gh} {H' : Hp} (p : Pres g H g' H') : ∀ {Hs : Hp} {xs : List Sl} {vs : List V}, XsR K g H Hs xs vs → XsR K g' H' Hs xs vs
  | _, [], _, r => r
  | _, s :: r, _, ⟨v, t, H1, e, ⟨o, hn, eo, q⟩, q2, q3, q4⟩ => ⟨v, t, H1, e, ⟨o, hn, eo, q.mono p⟩, q2, q3, XsR.mono p q4⟩
theorem Pres.more (s : Sim pg.K g h H) {g1 : Gh} {h1 : Sh} {H1 : Hp} (s1 : Sim pg.K g1 h1 H1) (p : Pres g H g1 H1) {a : Addr} (e : H a ≠ none) : H1 a ≠ none := by
  by_cases m : a ∈ g.ι
  · obtain ⟨t, et⟩ := p.i
    obtain ⟨u, hu⟩ := s1.tracked (a := a) (by rw [et]; exact List.mem_append_left _ m)
    rw [hu]
    exact fun z => nomatch z
  · cases q : H a with
    | none => exact (e q).elim
    | some u =>
      rw [(p.k a u q m).1]
      exact fun z => nomatch z
theorem okXs_all : ∀ (ts : List Tm) (ees : List Expr) {g : Gh} {H : Hp} {h : Sh} (gx : GX X c pg tb G C n) (s : Sim pg.K g h H) (en : EnR pg.K g H env σ), okXs c tb ts ees = true → SR pg X σ g H (fun g' H' xs vs => XsR pg.K g' H' H xs vs) (evXs C G ts env h) (wA X ees σ H)
  | [], ees, g, H, h, gx, s, en, ok => by
    cases ees with
    | cons _ _ => cases ok
    | nil =>
      rw [evXs]
      exact fun Q hQ => wA_of pa_nil (hQ [] H g s Pres.refl rfl)
  | t :: ts, ees, g, H, h, gx, s, en, ok => by
    cases ees with
    | nil => cases ok
    | cons e ees =>
      simp only [okXs, Bool.and_eq_true] at ok
      obtain ⟨⟨o1, o2⟩, o3⟩ := ok
      have comb : ∀ Q : List V → Hp → Prop, wE X e σ H (fun x H1 => wA X ees σ H1 fun xs H2 => Q (x :: xs) H2) → wA X (e :: ees) σ H Q := fun Q hq => wA_of (pa_cons pe_w pa_w (star_cons o2)) hq
      cases t with
      | e p =>
        simp only [okX, Bool.and_eq_true] at o1
        rw [evXs]
        refine SR.bind (w2 := fun x H1 Q => wA X ees σ H1 fun xs H2 => Q (x :: xs) H2) ((okE_all p _ X c g H σ env h gx o1.1 s en).vl (npk o1.2)) comb fun x h1 v H1 g1 _ s1 p1 r1 => ?_
        refine SR.bind (w2 := fun xs H2 Q => Q (v :: xs) H2) (okXs_all ts ees gx s1 (en.mono p1) o3) (fun _ hq => hq) fun xs h2 vs H2 g2 _ s2 p2 r2 => ?_
        exact fun Q hQ => hQ _ H2 g2 s2 Pres.refl ⟨v, vs, H1, rfl, ⟨some v, (fun z => nomatch z), rfl, v, rfl, VlR.mono p2 r1⟩, (fun _ _ z => nomatch z), fun a e => Pres.more s s1 p1 e, r2⟩
      | l p =>
        have o1 : okL c tb p e = true := o1
        rw [evXs]
        refine SR.bind (w2 := fun x H1 Q => wA X ees σ H1 fun xs H2 => Q (x :: xs) H2) (okL_all p _ X c g H σ env h gx o1 s en) comb fun x h1 v H1 g1 _ s1 p1 r1 => ?_
        refine SR.bind (w2 := fun xs H2 Q => Q (v :: xs) H2) (okXs_all ts ees gx s1 (en.mono p1) o3) (fun _ hq => hq) fun xs h2 vs H2 g2 _ s2 p2 r2 => ?_
        obtain ⟨a, ws, rfl, hH, z, ni, rl, n0⟩ := r1
        refine fun Q hQ => hQ _ H2 g2 s2 Pres.refl ⟨.ref a, vs, H1, rfl, ⟨_, (fun z => nomatch z), rfl, ?_⟩, fun xs b _ e => ?_, fun a e => Pres.more s s1 p1 e, r2⟩
        · exact SlR.mono p2 (s := .own x) ⟨a, ws, rfl, hH, z, ni, rl⟩
        · cases e
          exact ⟨n0, by rw [hH]; exact fun z => nomatch z⟩
def setAll : List Nat → List V → Sg → Sg
  | i :: is, v :: vs, σ => setAll is vs (σ.set i (some v))
  | _, _, σ => σ
theorem St.setAll (hτ : τ = none) : ∀ {is : List Nat} {xs : List Sl} {vs : List V} {env env' : En} {σ : Sg} {Hs : Hp}, bindAll is xs env = some env' → XsR pg.K g H Hs xs vs → OwnIn Hs env σ → (∀ a, Hs a = none → a ∉ g.ι → H0 a = none) → St pg g0 H0 gb τ g H h env σ →
    vs.length = is.length ∧ St pg g0 H0 gb τ g H h env' (Mi.setAll is vs σ)
  | [], [], vs, env, env', σ, Hs, e, r, ow, fr, st => by
    simp only [bindAll, Option.some.injEq] at e
    subst e
    have r : vs = [] := r
    subst r
    exact ⟨rfl, st⟩
  | i :: is, s :: xs, vs, env, env', σ, Hs, e, r, ow, fr, st => by
    obtain ⟨v, t, H1, rfl, ⟨o, hn, rfl, q⟩, q2, q3, q4⟩ := r
    have e : bindAll is xs (env.set i s) = some env' := e
    have ow1 : ∀ {env1 : En} {σ1 : Sg}, True → OwnIn H1 env σ := fun _ j ys a e1 e2 => q3 a (ow j ys a e1 e2)
    have main : St pg g0 H0 gb τ g H h (env.set i s) (σ.set i (some v)) ∧ OwnIn H1 (env.set i s) (σ.set i (some v)) := by
      cases s with
      | no => exact (hn rfl).elim
      | v x =>
        obtain ⟨v', ev, rx⟩ := q
        cases ev
        refine ⟨st.set hτ rx i, fun j ys a e1 e2 => ?_⟩
        by_cases hj : j = i
        · subst hj
          cases set_self e1
        · rw [List.getElem?_set_ne (Ne.symm hj)] at e1 e2
          exact q3 a (ow j ys a e1 e2)
      | own us =>
        obtain ⟨a, ws, ev, hH, z, ni, rl⟩ := q
        cases ev
        obtain ⟨n0, n1⟩ := q2 us a rfl rfl
        refine ⟨⟨st.sim, st.pz, st.en.setOwn ow hH z ni rl n0, fun j ys b e1 e2 => ?_, fun s e => by rw [hτ] at e; cases e⟩, fun j ys b e1 e2 => ?_⟩
        · by_cases hj : j = i
          · subst hj
            have := set_self e2
            cases this
            exact fr a n0 ni
          · rw [List.getElem?_set_ne (Ne.symm hj)] at e1 e2
            exact st.fr j ys b e1 e2
        · by_cases hj : j = i
          · subst hj
            have := set_self e2
            cases this
            exact n1
          · rw [List.getElem?_set_ne (Ne.symm hj)] at e1 e2
            exact q3 b (ow j ys b e1 e2)
    obtain ⟨l1, st2⟩ := St.setAll hτ (is := is) e q4 main.2 (fun a ha ni => fr a (by
      cases z : Hs a with
      | none => rfl
      | some u => exact (q3 a (by rw [z]; exact fun y => nomatch y) ha).elim) ni) main.1
    exact ⟨by rw [List.length_cons, List.length_cons, l1], st2⟩
  | [], _ :: _, _, _, _, _, _, e, _, _, _, _ => by simp [bindAll] at e
  | _ :: _, [], _, _, _, _, _, e, _, _, _, _ => by simp [bindAll] at e
theorem nmLoc_of {l i : Nat} {e : Expr} (ok : nmLoc c l i e = true) : ∃ x p, e = .Name x p ∧ c.N[i]? = some x ∧ c.sc.names.lookup x = some .local ∧ p.line = l := by
  cases e <;> simp only [nmLoc, Bool.and_eq_true] at ok <;> first | (cases ok; done) | skip
  rename_i x p
  exact ⟨x, p, rfl, of_decide_eq_true ok.1.1, of_decide_eq_true ok.1.2, eq_of_beq ok.2⟩
theorem nmLocs2 {l i j : Nat} {ts : List Expr} (ok : nmLocs c l [i, j] ts = true) : ∃ a b, ts = [a, b] ∧ nmLoc c l i a = true ∧ nmLoc c l j b = true := by
  rcases ts with _ | ⟨a, _ | ⟨b, _ | ⟨d, r⟩⟩⟩ <;> simp [nmLocs] at ok
  exact ⟨a, b, rfl, ok.1, ok.2⟩
theorem nmLocs3 {l i j k : Nat} {ts : List Expr} (ok : nmLocs c l [i, j, k] ts = true) : ∃ a b d, ts = [a, b, d] ∧ nmLoc c l i a = true ∧ nmLoc c l j b = true ∧ nmLoc c l k d = true := by
  rcases ts with _ | ⟨a, _ | ⟨b, _ | ⟨d, _ | ⟨e, r⟩⟩⟩⟩ <;> simp [nmLocs] at ok
  exact ⟨a, b, d, rfl, ok.1, ok.2.1, ok.2.2⟩
/-- the pair is not kept -/
theorem noStars_any : ∀ {vs : List Expr}, noStars vs = true → (vs.any fun | .Starred .. => true | _ => false) = false
  | [], _ => rfl
  | e :: es, ns => by
    rw [noStars, Bool.and_eq_true] at ns
    rw [List.any_cons, noStars_any ns.2, Bool.or_false]
    have := ns.1
    cases e <;> first | rfl | cases this
theorem swp2 {a b : Expr} {x y : Str} {px py : Pos} {k k2 : Nat} {p p2 : Pos} (gx : GX X c pg tb G C n) (ns : noStars [a, b] = true) (nf : [a, b].all (foldedForSure 8) = false) (nc : [a, b].all (constantsAlone 8) = false)
    (hx : X.env.kindOf x = some .local) (hy : X.env.kindOf y = some .local) (hl : py.line = px.line) (hne : x ≠ y) :
    swappedStores [.Tuple [.Name x px, .Name y py] k p] (.Tuple [a, b] k2 p2) X.env = pure (some [x, y]) := by
  have nst := noStars_any ns
  have ed : [x, y].eraseDups.length = 2 := by
    rw [List.eraseDups_cons, List.filter_cons]
    have : (!(y == x)) = true := by simpa using Ne.symm hne
    rw [if_pos this]
    rfl
  have ky : (y == x) = false := by simpa using Ne.symm hne
  unfold swappedStores
  simp only [gx.bk, nst, nf, nc, List.length_cons, List.length_nil, List.head?_cons, Option.map_some, Option.getD_some, Expr.pos, List.filterMap_cons, List.filterMap_nil, hx, hy, hl, beq_self_eq_true, Bool.and_self, if_true, ed]
  split
  · rename_i hh
    exact absurd hh (by decide)
  · split
    · rename_i hh
      have nst' := nst
      exact absurd (hh.symm.trans nst') (by decide)
    · rfl
theorem swp3 {a b d : Expr} {x y z : Str} {px py pz : Pos} {k k2 : Nat} {p p2 : Pos} (gx : GX X c pg tb G C n) (ns : noStars [a, b, d] = true) (nf : [a, b, d].all (foldedForSure 8) = false) (nc : [a, b, d].all (constantsAlone 8) = false)
    (hx : X.env.kindOf x = some .local) (hy : X.env.kindOf y = some .local) (hz : X.env.kindOf z = some .local) (hl : py.line = px.line) (hl2 : pz.line = px.line) (hxy : x ≠ y) (hxz : x ≠ z) (hyz : y ≠ z) :
    swappedStores [.Tuple [.Name x px, .Name y py, .Name z pz] k p] (.Tuple [a, b, d] k2 p2) X.env = pure (some [x, y, z]) := by
  have nst := noStars_any ns
  have ed : [x, y, z].eraseDups.length = 3 := by
    have h1 : (!(y == x)) = true := by simpa using Ne.symm hxy
    have h2 : (!(z == x)) = true := by simpa using Ne.symm hxz
    have h3 : (!(z == y)) = true := by simpa using Ne.symm hyz
    rw [List.eraseDups_cons, List.filter_cons, if_pos h1, List.filter_cons, if_pos h2, List.filter_nil, List.eraseDups_cons, List.filter_cons, if_pos h3]
    rfl
  unfold swappedStores
  simp only [gx.bk, nst, nf, nc, List.length_cons, List.length_nil, List.head?_cons, Option.map_some, Option.getD_some, Expr.pos, List.filterMap_cons, List.filterMap_nil, hx, hy, hz, hl, hl2, beq_self_eq_true, Bool.and_self, if_true, ed]
  split
  · rename_i hh
    exact absurd hh (by decide)
  · split
    · rename_i hh
      have nst' := nst
      exact absurd (hh.symm.trans nst') (by decide)
    · rfl
theorem ne_of_ix {i j : Nat} {x y : Str} (nd : c.N.Nodup) (h1 : c.N[i]? = some x) (h2 : c.N[j]? = some y) (hij : i ≠ j) : x ≠ y := fun e => by
  subst e
  obtain ⟨p1, q1⟩ := List.getElem?_eq_some_iff.mp h1
  obtain ⟨p2, q2⟩ := List.getElem?_eq_some_iff.mp h2
  exact hij ((List.getElem_inj nd).mp (q1.trans q2.symm))
theorem SO.par (hτ : τ = none) {is : List Nat} {tms : List Tm} {ts vs : List Expr} {k k2 : Nat} {p p2 pos : Pos} (gx : GX X c pg tb G C n) (st : St pg g0 H0 gb τ g H h env σ) (op : parB c is ts vs = true) (ok : okXs c tb tms vs = true) :
    SO pg X g0 H0 gb τ (evS C G W (.par is tms) env h) (fun D => wS X (.Assign [.Tuple ts k p] (.Tuple vs k2 p2) pos) D σ H) := by
  rw [evS]
  simp only [parB, Bool.and_eq_true] at op
  obtain ⟨⟨⟨⟨⟨⟨o1, o2⟩, o3⟩, o4⟩, o5⟩, o6⟩, o7⟩ := op
  have o3 := of_decide_eq_true o3
  have o6 : vs.all (foldedForSure 8) = false := by simpa using o6
  have o7 : vs.all (constantsAlone 8) = false := by simpa using o7
  have hv : vs.length = is.length := eq_of_beq o2
  have q := okXs_all tms vs gx st.sim st.en ok
  have loc : ∀ {x : Str}, c.sc.names.lookup x = some .local → X.env.scope.names.lookup x = some .local := fun z => by rw [gx.sc]; exact z
  have fin : (∀ D : Ends, wA X vs σ H (fun ws H1 => ws.length = is.length ∧ D.nx (Mi.setAll is ws σ) H1) → wS X (.Assign [.Tuple ts k p] (.Tuple vs k2 p2) pos) D σ H) → SO pg X g0 H0 gb τ ((evXs C G tms env h).bind fun xs h1 => match bindAll is xs env with
      | some env' => .ok (.nx env') h1
      | none => .no) (fun D => wS X (.Assign [.Tuple ts k p] (.Tuple vs k2 p2) pos) D σ H) := fun comb => by
    refine SO.bindE (w2 := fun ws H1 D => ws.length = is.length ∧ D.nx (Mi.setAll is ws σ) H1) q st.pt comb fun xs h1 ws H1 g1 _ s1 p1 r1 => ?_
    cases e : bindAll is xs env with
    | none => exact trivial
    | some env' =>
      obtain ⟨l1, st'⟩ := St.setAll hτ e r1 st.en.ownIn (fun a ha ni => fresh0 st.pre ha fun m => by
        obtain ⟨t, et⟩ := p1.i
        exact ni (by rw [et]; exact List.mem_append_left _ m)) (st.later s1 p1)
      exact fun D hD => ⟨l1, hD _ H1 g1 st'⟩
  rcases is with _ | ⟨i, _ | ⟨j, _ | ⟨l, _ | ⟨m, r⟩⟩⟩⟩
  · simp at o1
  · simp at o1
  · obtain ⟨ea, eb, rfl, n1, n2⟩ := nmLocs2 o4
    obtain ⟨x, px, rfl, x1, x2, x3⟩ := nmLoc_of n1
    obtain ⟨y, py, rfl, y1, y2, y3⟩ := nmLoc_of n2
    rcases vs with _ | ⟨a, _ | ⟨b, _ | ⟨d, r⟩⟩⟩ <;> simp at hv
    have hij : i ≠ j := by simpa using o3
    refine fin fun D hq => wS_of (ps_par gx.calm (by rw [gx.N]; exact gx.nd) (by rw [gx.N]; exact x1) (by rw [gx.N]; exact y1) hij (loc x2) (loc y2) pa_w (swp2 gx o5 o6 o7 (loc x2) (loc y2) (by rw [y3]; rfl) (ne_of_ix gx.nd x1 y1 hij)) rfl) ?_
    intro pos pins s I
    refine thn (hq pos pins s I) fun us s1 ⟨ws, H1, I1, rv, hl, hd⟩ => ⟨ws, H1, I1, rv, ?_⟩
    rcases ws with _ | ⟨u, _ | ⟨v, _ | ⟨w, r⟩⟩⟩ <;> simp at hl
    exact ⟨u, v, rfl, hd⟩
  · obtain ⟨ea, eb, ed, rfl, n1, n2, n3⟩ := nmLocs3 o4
    obtain ⟨x, px, rfl, x1, x2, x3⟩ := nmLoc_of n1
    obtain ⟨y, py, rfl, y1, y2, y3⟩ := nmLoc_of n2
    obtain ⟨z, pz, rfl, z1, z2, z3⟩ := nmLoc_of n3
    rcases vs with _ | ⟨a, _ | ⟨b, _ | ⟨d, _ | ⟨e, r⟩⟩⟩⟩ <;> simp at hv
    have nd : (i ≠ j ∧ i ≠ l) ∧ j ≠ l := by simpa using o3
    refine fin fun D hq => wS_of (ps_par3 gx.calm (by rw [gx.N]; exact gx.nd) (by rw [gx.N]; exact x1) (by rw [gx.N]; exact y1) (by rw [gx.N]; exact z1) nd.1.1 nd.1.2 nd.2 (loc x2) (loc y2) (loc z2) pa_w
      (swp3 gx o5 o6 o7 (loc x2) (loc y2) (loc z2) (by rw [y3]; rfl) (by rw [z3]; rfl) (ne_of_ix gx.nd x1 y1 nd.1.1) (ne_of_ix gx.nd x1 z1 nd.1.2) (ne_of_ix gx.nd y1 z1 nd.2)) rfl) ?_
    intro pos pins s I
    refine thn (hq pos pins s I) fun us s1 ⟨ws, H1, I1, rv, hl, hd⟩ => ⟨ws, H1, I1, rv, ?_⟩
    rcases ws with _ | ⟨u, _ | ⟨v, _ | ⟨w, _ | ⟨t, r⟩⟩⟩⟩ <;> simp at hl
    exact ⟨u, v, w, rfl, hd⟩
  · simp at o1
end
end Mi
/-! Mi: word, *parts = value. -/
namespace Mi
open PySem PySem.Spec PyProof.Rows L2
section
variable {prog : Program} {w : World} {A : Around} {E : Value → Shared → Prop} {s : Shared}
theorem unpack_starT {l : Addr} {items : Array Value} {i : Nat} {Q : List Value → Shared → Prop} (hl : IsTup s.heap l items) (hh : A.handled = none) (hn : i ≤ items.size) (hz : items.size ≤ sizeLine)
    (h : ∀ (h' : Heap) (tk : Nat), (∀ b o, s.heap.get? b = some o → h'.get? b = some o) → Q (items.toList.take i ++ [.ref h'.objs.size]) { s with heap := h'.push { cls := .type "list", data := .seq (items.toList.drop i).toArray }, toks := tk }) : wpAny (model prog w) A (unpackItems (.ref l) (i + 1) (some i)) Q E s := by
  have hll : l < s.heap.objs.size := hl.elim fun o q => Heap.lt_size q.1
  have hlt : l ≠ s.heap.objs.size := Nat.ne_of_lt hll
  unfold unpackItems notIterableAtAll
  refine wpAny_bind (wpAny_bind (wpAny_specialOf hl.typeIs slot_tuple_iter.lookup (wpAny_pure ?_)))
  simp only [Bool.false_eq_true, if_false]
  refine wpAny_bind (wpAny_holding (iter_tuple hl (wpAny_bind (wpAny_holding (draw_tuple hlt i 0 _ _ ⟨_, Heap.get?_push_size _ rfl, rfl, rfl⟩ (hl.push _) (by omega) fun h₁ hit₁ hs₁ => ?_)))))
  have hl₁ : IsTup h₁ l items := (hl.push _).extBut hs₁.extBut hlt
  rw [Nat.zero_add] at hit₁
  have l1 : s.heap.objs.size < h₁.objs.size := hit₁.elim fun o q => Heap.lt_size q.1
  have l2 : l < h₁.objs.size := hl₁.elim fun o q => Heap.lt_size q.1
  have hfl : ¬ (items.toList.take i).length < i := by rw [List.length_take, Array.length_toList]; omega
  rw [List.drop_zero, if_neg hfl]
  refine wpAny_bind (wpAny_holding (PySem.W.kun_collect (s := { s with heap := h₁ }) (T := "tuple_iterator") (.inr (.inr (.inr rfl))) (Walks.tuple (A := A.in1) hh s.heap.objs.size l hlt items) (fun j u st => st.1.typeIs) (k := i) hn ⟨hit₁, hl₁⟩ l1 l2 (fun h₂ tk hk => ?_) hz))
  have he : ∀ b o, s.heap.get? b = some o → h₂.get? b = some o := fun b o e => have hb : b ≠ s.heap.objs.size := Nat.ne_of_lt (Heap.lt_size e)
    hk b o hb (hs₁.extBut b o hb (Heap.get?_push_of_some _ e))
  show wpAny _ _ (if (items.toList.drop i).length < i + 1 - 1 - i then _ else _) _ _ _
  rw [if_neg (by omega)]
  show wpAny _ _ (newList ((items.toList.drop i).take ((items.toList.drop i).length - (i + 1 - 1 - i))) >>= fun d => pure (items.toList.take i ++ [d] ++ (items.toList.drop i).drop ((items.toList.drop i).length - (i + 1 - 1 - i)))) _ _ _
  have e0 : (items.toList.drop i).length - (i + 1 - 1 - i) = (items.toList.drop i).length := by omega
  rw [e0, List.take_length, List.drop_length]
  refine wpAny_bind (wpAny_newList (s := { s with heap := h₂, toks := tk }) (wpAny_pure ?_) (by rw [List.length_drop, Array.length_toList]; omega))
  rw [List.append_nil]
  exact h h₂ tk he
end
section
variable {pg : Pg} {tb : Tb} {G : Nat → Option PyData} {C : Cf} {n : Nat} {X : Cx} {c : Cd} {g g0 gb : Gh} {τ : Option Sg} {H H0 : Hp} {σ : Sg} {h : Sh} {env : En} {W : Nat}
def gSt (K : PySem.W.Frag) (i r : Nat) : TG := fun v σ H Q => ∃ a x xs, v = .ref a ∧ SqT K H a (x :: xs) ∧ ∀ p, H p = none → Q ((σ.set i (some x)).set r (some (.ref p))) (upd H p (.lst xs))
theorem pg_st {i r : Nat} {x y : Str} {p1 p2 p3 pos : Pos} {k : Nat} (gx : GX X c pg tb G C n) (o1 : stB c i x = true) (o2 : stB c r y = true) : PG X (.Tuple [.Name x p1, .Starred (.Name y p2) p3] k pos) (gSt X.K i r) := by
  refine ⟨fun pins s σ H v u Q I rv hw => ?_⟩
  obtain ⟨a, x0, xs, rfl, hq, hw⟩ := hw
  cases rv
  obtain ⟨its, rl, ht, hz⟩ := I.tuple hq
  have hlen := rl.length
  rw [List.length_cons] at hlen
  rw [assign_Tuple]
  refine wpAny_bind (wpAny_standAt ?_)
  unfold unpack
  show wpAny _ _ (holding _ (unpackItems (.ref a) 2 (some 1)) >>= fun vs => assignInOrder [assign (.Name x p1) X.env, assign (.Name y p2) X.env] vs) _ _ _
  refine wpAny_bind (wpAny_holding (unpack_starT (i := 1) ht (I.ok.hd gx.calm) (by rw [List.size_toArray]; omega) (by rw [List.size_toArray, ← hlen]; exact Nat.le_trans (Nat.le_of_eq (by simp)) hz) fun h' tk hx => ?_))
  have I1 : Inv X pins σ H { s with heap := h', toks := tk } := I.kept hx
  cases rl with
  | cons r0 rr =>
    rename_i u0 us
    have hz' : xs.length ≤ sizeLine := Nat.le_trans (Nat.le_of_lt (Nat.lt_succ_self _)) (by simpa using hz)
    have I2 : Inv X pins σ (upd H h'.objs.size (.lst xs)) { s with heap := h'.push { cls := .type "list", data := .seq ((u0 :: us).toArray.toList.drop 1).toArray }, toks := tk } :=
      I1.laid (t' := tk) (fun b o q => Heap.get?_push_of_some _ q) (Nat.le_refl _) ⟨hz', us, 0, rr, Heap.get?_push_size _ rfl⟩
    have nH : H h'.objs.size = none := I1.hok.fresh (Nat.le_refl _)
    refine assignInOrder_cons (thn ((pg_nm gx o1).run pins _ σ _ x0 u0 _ I2 r0 (show gName i x0 σ _ (fun σ' H' => σ' = σ.set i (some x0) ∧ H' = upd H h'.objs.size (.lst xs)) from ⟨rfl, rfl⟩)) fun _ s3 ⟨σ3, H3, I3, e1, e2⟩ => ?_)
    subst e1 e2
    refine assignInOrder_cons (thn ((pg_nm gx o2).run pins s3 _ _ (.ref h'.objs.size) (.ref h'.objs.size) _ I3 rfl (show gName r _ _ _ Q from hw _ nH)) fun _ s4 q => ?_)
    exact assignInOrder_nil q
theorem SO.star (hτ : τ = none) {i r : Nat} {e : Te} {x y z : Str} {p1 p2 p3 p4 p5 pos : Pos} {k : Nat} (gx : GX X c pg tb G C n) (st : St pg g0 H0 gb τ g H h env σ) (o1 : stB c i x = true) (o2 : stB c r y = true) (oe : okE c tb e (.Name z p4) = true) (np : isPeek e = false) :
    SO pg X g0 H0 gb τ (evS C G W (.asg (.st [i] r) e) env h) (fun D => wS X (.Assign [.Tuple [.Name x p1, .Starred (.Name y p2) p3] k p5] (.Name z p4) pos) D σ H) := by
  rw [evS]
  refine SO.bindE (w2 := fun v H1 (D : Ends) => gSt X.K i r v σ H1 D.nx) ((okE_all e _ X c g H σ env h gx oe st.sim st.en).vl np) st.pt (fun D hq => wS_of (ps_asg pe_w (pg_st gx o1 o2) rfl rfl rfl) hq) fun v h1 vv H1 g1 q1 s1 p1 r1 => ?_
  cases eb : bindTg (.st [i] r) v env with
  | none => exact trivial
  | some env' =>
    unfold bindTg at eb
    split at eb
    · rename_i hq; cases hq
    · rename_i hq; cases hq
    · rename_i hq; cases hq
    · rename_i is r' xs hq
      cases hq
      cases xs with
      | nil => simp [bindSt] at eb
      | cons d ds =>
        simp only [bindSt, Option.some.injEq] at eb
        subst eb
        have r1 : Rp pg.K g1.Z (.tuple (d :: ds)) vv := r1
        simp only [Rp] at r1
        obtain ⟨a, vs, rfl, hq, rl⟩ := r1
        simp only [RpL] at rl
        obtain ⟨v0, vr, rfl, rd, rr⟩ := rl
        have st1 := st.later s1 p1
        refine fun D hD => ⟨a, v0, vr, rfl, by rw [gx.hK]; exact sqT_mono s1.sub hq, fun p np => ?_⟩
        obtain ⟨s2, p2⟩ := s1.frozen np (.lst vr)
        have st2 := (st1.later s2 p2)
        have st3 := st2.set hτ (x := .d d) (Rp.mono p2.z _ _ rd) i
        have rl2 : Rp pg.K (upd g1.Z p (.lst vr)) (.list ds) (.ref p) := by
          simp only [Rp]
          exact ⟨p, vr, rfl, upd_same, RpL.mono p2.z _ _ rr⟩
        exact hD _ _ _ (st3.set hτ (x := .d (.list ds)) rl2 r)
    · cases eb
end
end Mi
/-! Mi: statements: lists changed, loops; all statements. -/
namespace Mi
open PySem PySem.Spec PyProof.Rows L2
section
variable {pg : Pg} {tb : Tb} {G : Nat → Option PyData} {C : Cf} {n : Nat} {X : Cx} {c : Cd} {g g0 gb : Gh} {τ : Option Sg} {H H0 : Hp} {σ : Sg} {h : Sh} {env : En} {W : Nat}

theorem pip_w {op : Operator} : PIp X op (fun x y H Q => ∀ σ, wO X (inplaceOp op) σ x y H Q) := fun pins s σ H x y v u Q I rx ry q => q σ pins s v u I rx ry
theorem SO.aug (hτ : τ = none) {i : Nat} {op : Operator} {e : Te} {x : Str} {e' : Expr} {p pos : Pos} (gx : GX X c pg tb G C n) (st : St pg g0 H0 gb τ g H h env σ) (ost : stB c i x = true) (oop : op = .Add ∨ op = .Sub) (oe : okE c tb e e' = true) (np : isPeek e = false) :
    SO pg X g0 H0 gb τ (evS C G W (.aug i op e) env h) (fun D => wS X (.AugAssign (.Name x p) op e' pos) D σ H) := by
  rw [evS]
  obtain ⟨t1, t2, t3⟩ := stB_of gx ost
  split
  · rename_i x0 ex
    obtain ⟨o, e1, v, rfl, rv⟩ := st.en.at_ i _ ex
    refine SO.bindE (w2 := fun y H1 D => ∀ σ', wO X (inplaceOp op) σ' v y H1 fun z H2 => D.nx (σ.set i (some z)) H2) ((okE_all e _ X c g H σ env h gx oe st.sim st.en).vl np) st.pt
      (fun D hq => wS_of (ps_aug (by rw [gx.N]; exact gx.nd) t1 t2 pe_w pip_w t3) ⟨v, e1, hq⟩) fun y h1 w H1 g1 q1 s1 p1 r1 => ?_
    cases y with
    | d y =>
      dsimp only
      by_cases hf : flatD x0 = true
      · rw [if_pos hf]
        cases eb : binD op x0 y with
        | none => exact trivial
        | some z => exact fun D hD σ' => aug_ok gx.hK s1 (.inl (VlR.mono p1 rv)) (.inl r1) hf eb oop fun z' H2 g2 s2 p2 r2 => hD _ H2 g2 (((st.later s1 p1).later s2 p2).set hτ (x := .d z) r2 i)
      · rw [if_neg hf]; exact trivial
    | _ => exact trivial
  · exact trivial
theorem sw_sole {t e : Expr} {l : Nat} {env : Env} (nc : noComp e = true) : swapsWithSole [t] e l env = pure false := (sw_false nc : swapsWith e (some t) l env = pure false)
theorem SO.setix {r i e : Te} {r' i' e' : Expr} {p2 pos : Pos} (gx : GX X c pg tb G C n) (st : St pg g0 H0 gb τ g H h env σ) (o1 : okE c tb r r' = true) (o2 : okE c tb i i' = true) (o3 : okE c tb e e' = true) (nsl : noSlice i' = true) (nc : noComp e' = true) (np1 : isPeek r = false) (np2 : isPeek i = false) (np3 : isPeek e = false) :
    SO pg X g0 H0 gb τ (evS C G W (.setix r i e) env h) (fun D => wS X (.Assign [.Subscript r' i' p2] e' pos) D σ H) := by
  rw [evS]
  have rule := ps_asg (X := X) (pos := pos) (tg := .Subscript r' i' p2) (pe_w (e := e')) (pg_sub (pe_w (e := r')) (pe_w (e := i')) set_list (by intro v; cases i' <;> first | rfl | cases nsl)) (sw_sole nc) rfl rfl
  refine SO.bindE (w2 := fun v H1 (D : Ends) => wE X r' σ H1 fun o H2 => wE X i' σ H2 fun j H3 => rSetL o j v H3 fun H4 => D.nx σ H4) ((okE_all e _ X c g H σ env h gx o3 st.sim st.en).vl np3) st.pt (fun D hq => wS_of rule hq) fun v h1 vv H1 g1 q1 s1 p1 r1 => ?_
  have st1 := st.later s1 p1
  refine SO.bindE (w2 := fun o H2 (D : Ends) => wE X i' σ H2 fun j H3 => rSetL o j vv H3 fun H4 => D.nx σ H4) ((okE_all r _ X c g1 H1 σ env h1 gx o1 st1.sim st1.en).vl np1) st1.pt (fun D hq => hq) fun x h2 xv H2 g2 q2 s2 p2 r2 => ?_
  have st2 := st1.later s2 p2
  refine SO.bindE (w2 := fun j H3 (D : Ends) => rSetL xv j vv H3 fun H4 => D.nx σ H4) ((okE_all i _ X c g2 H2 σ env h2 gx o2 st2.sim st2.en).vl np2) st2.pt (fun D hq => hq) fun y h3 yv H3 g3 q3 s3 p3 r3 => ?_
  have st3 := st2.later s3 p3
  split
  · rename_i v n j
    split
    · rename_i xs eo
      split
      · rename_i k ek
        have r2' := VlR.mono p3 r2
        obtain ⟨a, ea, rfl⟩ := r2'
        have r3 : Rp pg.K g3.Z (.int j) yv := r3
        simp only [Rp] at r3
        subst r3
        obtain ⟨a', ea', vs, hH, rl⟩ := s3.obj n _ eo
        rw [ea] at ea'
        cases ea'
        obtain ⟨s4, p4⟩ := s3.write ea (rl.set (Rp.mono (p2.trans p3).z _ _ r1) k)
        exact fun D hD => ⟨a, vs, j, k, rfl, rfl, hH, by rw [rl.length]; exact ek, hD σ _ g3 (st3.later s4 p4)⟩
      · exact trivial
    · exact trivial
  · exact trivial
theorem own_at (st : St pg g0 H0 gb τ g H h env σ) {i : Nat} {xs : List PyData} (e : env[i]? = some (.own xs)) : ∃ a vs, σ[i]? = some (some (.ref a)) ∧ H a = some (.lst vs) ∧ RpL pg.K g.Z xs vs := by
  obtain ⟨o, e2, a, vs, rfl, hH, z, ni, rl⟩ := st.en.at_ i _ e
  exact ⟨a, vs, e2, hH, rl⟩
theorem SO.ownix {j : Nat} {i e : Te} {x : Str} {i' e' : Expr} {p p2 pos : Pos} (gx : GX X c pg tb G C n) (st : St pg g0 H0 gb τ g H h env σ) (on : nmB c j x = true) (o2 : okE c tb i i' = true) (o3 : okE c tb e e' = true) (nsl : noSlice i' = true) (nc : noComp e' = true) (np2 : isPeek i = false) (np3 : isPeek e = false) :
    SO pg X g0 H0 gb τ (evS C G W (.ownix j i e) env h) (fun D => wS X (.Assign [.Subscript (.Name x p) i' p2] e' pos) D σ H) := by
  rw [evS]
  obtain ⟨n1, n2, n3, n4⟩ := nmB_of on
  have hv : PE X (.Name x p) (tVar j) := pe_var (by rw [gx.N]; exact n1) (gx.vis n2) n3 n4
  have rule := ps_asg (X := X) (pos := pos) (tg := .Subscript (.Name x p) i' p2) (pe_w (e := e')) (pg_sub hv (pe_w (e := i')) set_list (by intro v; cases i' <;> first | rfl | cases nsl)) (sw_sole nc) rfl rfl
  split
  · rename_i xs eo
    obtain ⟨a, vs, ea, _, _⟩ := own_at st eo
    refine SO.bindE (w2 := fun v H1 (D : Ends) => wE X i' σ H1 fun y H3 => rSetL (.ref a) y v H3 fun H4 => D.nx σ H4) ((okE_all e _ X c g H σ env h gx o3 st.sim st.en).vl np3) st.pt (fun D hq => wS_of rule (wE_mono hq fun v H1 q => ⟨.ref a, ea, q⟩)) fun v h1 vv H1 g1 q1 s1 p1 r1 => ?_
    have st1 := st.later s1 p1
    refine SO.bindE (w2 := fun y H3 (D : Ends) => rSetL (.ref a) y vv H3 fun H4 => D.nx σ H4) ((okE_all i _ X c g1 H1 σ env h1 gx o2 st1.sim st1.en).vl np2) st1.pt (fun D hq => hq) fun y h3 yv H3 g3 q3 s3 p3 r3 => ?_
    have st3 := st1.later s3 p3
    split
    · rename_i v k
      split
      · rename_i q eq
        have r3 : Rp pg.K g3.Z (.int k) yv := r3
        simp only [Rp] at r3
        subst r3
        obtain ⟨a', vs', ea', hH, rl⟩ := own_at st3 eo
        rw [ea] at ea'
        cases ea'
        exact fun D hD => ⟨a, vs', k, q, rfl, rfl, hH, by rw [rl.length]; exact eq, hD σ _ g3 (st3.chg eo ea (rl.set (Rp.mono p3.z _ _ r1) q))⟩
      · exact trivial
    · exact trivial
  · exact trivial
theorem ty_append : typeOf (.builtin "list.append") = pure (.type "method_descriptor") := by show builtinType _ = _; rw [builtinType_eq_fast]; kernel_rfl
theorem ty_extend : typeOf (.builtin "list.extend") = pure (.type "method_descriptor") := by show builtinType _ = _; rw [builtinType_eq_fast]; kernel_rfl
theorem pa_one {e : Expr} (ns : noStar e = true) : PA X [e] (fun σ H Q => wE X e σ H fun x H1 => Q [x] H1) := pa_cons pe_w pa_nil (star_cons ns)
theorem few_of {e : Expr} {cpos : Pos} (ns : noStar e = true) : ((backTo cpos (starEach [e] X.env)).all (fun x => !x.1) && (backToKw cpos (keywordEach [] X.env)).all (fun x => x.1.isSome)
      && decide ([e].length + ([] : List Keyword).length + (if ([] : List Keyword).isEmpty then 0 else 1) < 30)) = true := by
  rw [star_cons ns]
  rfl
theorem SO.app {j : Nat} {e : Te} {x nm : Str} {e' : Expr} {p ap cp pos : Pos} (gx : GX X c pg tb G C n) (st : St pg g0 H0 gb τ g H h env σ) (hnm : nm = ("append" : Str)) (on : nmB c j x = true) (o3 : okE c tb e e' = true) (np3 : isPeek e = false) (ns : noStar e' = true) (hl : (ap.endLine == cp.line) = true) :
    SO pg X g0 H0 gb τ (evS C G W (.app j e) env h) (fun D => wS X (.Expr (.Call (.Attribute (.Name x p) nm ap) [e'] [] cp) pos) D σ H) := by
  subst hnm
  rw [evS]
  obtain ⟨n1, n2, n3, n4⟩ := nmB_of on
  have hv : PE X (.Name x p) (tVar j) := pe_var (by rw [gx.N]; exact n1) (gx.vis n2) n3 n4
  have rule := ps_expr (X := X) (pos := pos) (pe_bm (X := X) PySem.F.plainAttrs_list PySem.F.slot_list_append ty_append mt_append hv (pa_one ns) rfl (few_of ns) hl (star_cons ns) rfl) rfl
  split
  · rename_i xs eo
    obtain ⟨a, vs, ea, hH, _⟩ := own_at st eo
    refine SO.bindE (w2 := fun v H1 (D : Ends) => rAppend (.ref a) [v] H1 fun _ H4 => D.nx σ H4) ((okE_all e _ X c g H σ env h gx o3 st.sim st.en).vl np3) st.pt (fun D hq => wS_of rule ⟨.ref a, ea, .inl ⟨rfl, vs, .of hH⟩, hq⟩) fun v h1 vv H1 g1 q1 s1 p1 r1 => ?_
    have st1 := st.later s1 p1
    split
    · rename_i v
      split
      · rename_i hz
        obtain ⟨a', vs', ea', hH', rl⟩ := own_at st1 eo
        rw [ea] at ea'
        cases ea'
        exact fun D hD => ⟨a, vs', vv, rfl, rfl, hH', by rw [rl.length, ← szL]; exact hz, hD σ _ g1 (st1.chg eo ea (rl.append (RpL.cons r1 RpL.nil)))⟩
      · exact trivial
    · exact trivial
  · exact trivial
theorem SO.ext {j : Nat} {e : Te} {x nm : Str} {e' : Expr} {p ap cp pos : Pos} (gx : GX X c pg tb G C n) (st : St pg g0 H0 gb τ g H h env σ) (hnm : nm = ("extend" : Str)) (on : nmB c j x = true) (o3 : okE c tb e e' = true) (ns : noStar e' = true) (hl : (ap.endLine == cp.line) = true) :
    SO pg X g0 H0 gb τ (evS C G W (.ext j e) env h) (fun D => wS X (.Expr (.Call (.Attribute (.Name x p) nm ap) [e'] [] cp) pos) D σ H) := by
  subst hnm
  rw [evS]
  obtain ⟨n1, n2, n3, n4⟩ := nmB_of on
  have hv : PE X (.Name x p) (tVar j) := pe_var (by rw [gx.N]; exact n1) (gx.vis n2) n3 n4
  have rule := ps_expr (X := X) (pos := pos) (pe_bm (X := X) PySem.F.plainAttrs_list PySem.F.slot_list_extend ty_extend mt_extend hv (pa_one ns) rfl (few_of ns) hl (star_cons ns) rfl) rfl
  split
  · rename_i xs eo
    obtain ⟨a, vs, ea, hH, _⟩ := own_at st eo
    refine SO.bindE (w2 := fun v H1 (D : Ends) => rExtend (.ref a) [v] H1 fun _ H4 => D.nx σ H4) (okE_all e _ X c g H σ env h gx o3 st.sim st.en).v st.pt (fun D hq => wS_of rule ⟨.ref a, ea, .inl ⟨rfl, vs, .of hH⟩, hq⟩) fun v h1 vv H1 g1 q1 s1 p1 r1 => ?_
    have st1 := st.later s1 p1
    split
    · rename_i ys
      split
      · rename_i hz
        obtain ⟨a', vs', ea', hH', rl⟩ := own_at st1 eo
        rw [ea] at ea'
        cases ea'
        obtain ⟨b, ws, rfl, hB, rl2⟩ := PkD.list s1 r1.pk
        exact fun D hD => ⟨a, b, vs', ws, rfl, rfl, hH', hB, by rw [rl.length, rl2.length, ← szL]; exact hz, hD σ _ g1 (st1.chg eo ea (rl.append rl2))⟩
      · exact trivial
    · exact trivial
  · exact trivial
theorem SO.expr {e : Te} {e' : Expr} {pos : Pos} (gx : GX X c pg tb G C n) (st : St pg g0 H0 gb τ g H h env σ) (oe : okE c tb e e' = true) (nc : noComp e' = true) :
    SO pg X g0 H0 gb τ (evS C G W (.expr e) env h) (fun D => wS X (.Expr e' pos) D σ H) := by
  rw [evS]
  refine SO.bindE (w2 := fun v H1 (D : Ends) => D.nx σ H1) (okE_all e _ X c g H σ env h gx oe st.sim st.en).v st.pt (fun D hq => wS_of (ps_expr pe_w (sw_false nc)) hq) fun v h1 vv H1 g1 q1 s1 p1 r1 => ?_
  exact SO.nx (st.later s1 p1) fun D hd => hd
theorem SO.ret {e : Te} {e' : Expr} {pos : Pos} (gx : GX X c pg tb G C n) (st : St pg g0 H0 gb τ g H h env σ) (oe : okE c tb e e' = true) (np : isPeek e = false) :
    SO pg X g0 H0 gb τ (evS C G W (.ret e) env h) (fun D => wS X (.Return (some e') pos) D σ H) := by
  rw [evS]
  refine SO.bindE (w2 := fun v H1 (D : Ends) => D.rt v H1) ((okE_all e _ X c g H σ env h gx oe st.sim st.en).vl np) st.pt (fun D hq => wS_of (ps_ret pe_w) hq) fun v h1 vv H1 g1 q1 s1 p1 r1 => ?_
  exact fun D hD => hD vv H1 g1 s1 (st.pz.trans p1) r1
theorem SO.retN {pos : Pos} (st : St pg g0 H0 gb τ g H h env σ) : SO pg X g0 H0 gb τ (evS C G W .retN env h) (fun D => wS X (.Return none pos) D σ H) := by
  rw [evS]
  exact fun D hD => wS_of ps_retN (hD .non H g st.sim st.pz (by simp only [VlR, Rp]))
theorem SO.iff {t : Te} {a b : List Ts} {t' : Expr} {a' b' : List Stmt} {pos : Pos} (gx : GX X c pg tb G C n) (st : St pg g0 H0 gb τ g H h env σ) (oe : okE c tb t t' = true)
    (ka : ∀ h1 H1 g1, St pg g0 H0 gb τ g1 H1 h1 env σ → SO pg X g0 H0 gb τ (evSs C G W a env h1) (fun D => wSs X a' D σ H1)) (kb : ∀ h1 H1 g1, St pg g0 H0 gb τ g1 H1 h1 env σ → SO pg X g0 H0 gb τ (evSs C G W b env h1) (fun D => wSs X b' D σ H1)) :
    SO pg X g0 H0 gb τ (evS C G W (.iff t a b) env h) (fun D => wS X (.If t' a' b' pos) D σ H) := by
  rw [evS]
  refine SO.bindE (w2 := fun k H1 (D : Ends) => if k = true then wSs X a' D σ H1 else wSs X b' D σ H1) (okE_all t _ X c g H σ env h gx oe st.sim st.en).t st.pt (fun D hq => wS_of (ps_if pt_w pss_w pss_w) hq) fun k h1 k' H1 g1 q1 s1 p1 r1 => ?_
  subst r1
  cases k with
  | true => exact ka h1 H1 g1 (st.later s1 p1)
  | false => exact kb h1 H1 g1 (st.later s1 p1)

/-! ### loops -/
theorem forLoop_stop {body : En → Sh → R Out} {tg : Tg} {env : En} : forLoop body tg [] env h = .ok (.nx env) h := rfl
theorem forLoop_cons {body : En → Sh → R Out} {tg : Tg} {x : Vl} {xs : List Vl} {env env' : En} (e : bindTg tg x env = some env') : forLoop body tg (x :: xs) env h = (body env' h).bind fun o h1 => match o with
      | .nx e => forLoop body tg xs e h1
      | .ct e => forLoop body tg xs e h1
      | .bk e => .ok (.nx e) h1
      | .rt v => .ok (.rt v) h1 := by
  rw [forLoop, e]
  all_goals rfl
/-- what the loop's end is, by the reader's result -/
def Fin (pg : Pg) (X : Cx) (g0 : Gh) (H0 : Hp) (gb : Gh) (τ : Option Sg) (r : R Out) (D : Ends) (K : Prop) : Prop := match r with
  | .ok (.nx env') h' => (∀ σ' H' g', St pg g0 H0 gb τ g' H' h' env' σ' → D.nx σ' H') → K
  | .ok (.bk env') h' => (∀ σ' H' g', St pg g0 H0 gb τ g' H' h' env' σ' → D.bk σ' H') → K
  | .ok (.ct env') h' => (∀ σ' H' g', St pg g0 H0 gb τ g' H' h' env' σ' → D.ct σ' H') → K
  | .ok (.rt x) h' => (∀ v H' g', Sim pg.K g' h' H' → PZ g0 H0 gb g' H' → VlR pg.K g' x v → D.rt v H') → K
  | .ex e h' => ∀ W : WX, Takes X W → (∀ cls dx σ' H' g', Sim pg.K g' h' H' → PQ g0 H0 gb τ g' H' σ' → ErR pg e cls dx H' g' → W cls dx σ' H') → K
  | .no => True
theorem SO.of {r : R Out} {w : Ends → Prop} (f : ∀ D, Fin pg X g0 H0 gb τ r D (w D)) : SO pg X g0 H0 gb τ r w := by
  cases r with
  | no => exact trivial
  | ex e h' => exact fun W tk hW D => f D W tk hW
  | ok o h' => cases o <;> exact fun D hD => f D hD
theorem SO.fin {r : R Out} {w : Ends → Prop} (q : SO pg X g0 H0 gb τ r w) (D : Ends) : Fin pg X g0 H0 gb τ r D (w D) := by
  cases r with
  | no => exact trivial
  | ex e h' => exact fun W tk hW => q W tk hW D
  | ok o h' => cases o <;> exact fun hD => q D hD
/-- the wish is kept: reach r with D -/
def Wish (pg : Pg) (X : Cx) (g0 : Gh) (H0 : Hp) (gb : Gh) (τ : Option Sg) (r : R Out) (D : Ends) : Prop := match r with
  | .ok (.nx env') h' => ∀ σ' H' g', St pg g0 H0 gb τ g' H' h' env' σ' → D.nx σ' H'
  | .ok (.bk env') h' => ∀ σ' H' g', St pg g0 H0 gb τ g' H' h' env' σ' → D.bk σ' H'
  | .ok (.ct env') h' => ∀ σ' H' g', St pg g0 H0 gb τ g' H' h' env' σ' → D.ct σ' H'
  | .ok (.rt x) h' => ∀ v H' g', Sim pg.K g' h' H' → PZ g0 H0 gb g' H' → VlR pg.K g' x v → D.rt v H'
  | .ex e h' => ∃ W : WX, Takes X W ∧ ∀ cls dx σ' H' g', Sim pg.K g' h' H' → PQ g0 H0 gb τ g' H' σ' → ErR pg e cls dx H' g' → W cls dx σ' H'
  | .no => False
theorem Fin.of {r : R Out} {D : Ends} {K : Prop} (f : Wish pg X g0 H0 gb τ r D → K) : Fin pg X g0 H0 gb τ r D K := by
  cases r with
  | no => exact trivial
  | ex e h' => exact fun W tk hW => f ⟨W, tk, hW⟩
  | ok o h' => cases o <;> exact fun hD => f hD
theorem SO.run {r : R Out} {w : Ends → Prop} (q : SO pg X g0 H0 gb τ r w) {D : Ends} (wi : Wish pg X g0 H0 gb τ r D) : w D := by
  cases r with
  | no => exact wi.elim
  | ex e h' => exact let ⟨W, tk, hW⟩ := wi; q W tk hW D
  | ok o h' => cases o <;> exact q D wi
theorem SO.earlier {g1 : Gh} {r : R Out} {w : Ends → Prop} (m : ∀ a o, gb.Z a = some o → g1.Z a = some o) (q : SO pg X g0 H0 g1 τ r w) : SO pg X g0 H0 gb τ r w := by
  cases r with
  | no => exact trivial
  | ex e h' => exact fun W tk hW D => q W tk (fun cls dx σ' H' g' s p e => hW cls dx σ' H' g' s ⟨⟨p.pz.pre, fun a o z => p.pz.zm a o (m a o z)⟩, p.ts⟩ e) D
  | ok o h' => cases o with
    | rt v => exact fun D hD => q D fun v H' g' s p r => hD v H' g' s ⟨p.pre, fun a o z => p.zm a o (m a o z)⟩ r
    | nx _ => exact fun D hD => q D fun σ' H' g' st => hD σ' H' g' (st.earlier m)
    | bk _ => exact fun D hD => q D fun σ' H' g' st => hD σ' H' g' (st.earlier m)
    | ct _ => exact fun D hD => q D fun σ' H' g' st => hD σ' H' g' (st.earlier m)
/-- a turn of a loop -/
theorem loop_turn {r rl : R Out} {f : En → Sh → R Out} {w : Ends → Prop} {D : Ends} {N : Sg → Hp → Prop} {g1 g' : Gh} (m1 : ∀ a o, gb.Z a = some o → g1.Z a = some o) (m : ∀ a o, g1.Z a = some o → g'.Z a = some o) (q : SO pg X g0 H0 g' τ r w)
    (el : (r.bind fun o h1 => match o with
      | .nx e => f e h1
      | .ct e => f e h1
      | .bk e => .ok (.nx e) h1
      | .rt v => .ok (.rt v) h1) = rl) (wi : Wish pg X g0 H0 gb τ rl D) (hN : ∀ σ2 H2 g2 env2 h2, St pg g0 H0 gb τ g2 H2 h2 env2 σ2 → (∀ a o, g1.Z a = some o → g2.Z a = some o) → f env2 h2 = rl → N σ2 H2) : w { D with nx := N, ct := N, bk := D.nx } := by
  have mm : ∀ a o, gb.Z a = some o → g'.Z a = some o := fun a o e => m a o (m1 a o e)
  cases r with
  | no =>
    have el : (R.no : R Out) = rl := el
    rw [← el] at wi
    exact wi.elim
  | ex e h' =>
    have el : (R.ex e h' : R Out) = rl := el
    rw [← el] at wi
    obtain ⟨W, tk, hW⟩ := wi
    exact q.earlier mm W tk hW _
  | ok o h' =>
    cases o with
    | nx e => exact q _ fun σ' H' g2 st => hN σ' H' g2 e h' (st.earlier mm) (fun a o z => st.pz.zm a o (m a o z)) el
    | ct e => exact q _ fun σ' H' g2 st => hN σ' H' g2 e h' (st.earlier mm) (fun a o z => st.pz.zm a o (m a o z)) el
    | bk e =>
      have el : (R.ok (.nx e) h' : R Out) = rl := el
      rw [← el] at wi
      exact q _ fun σ' H' g2 st => wi σ' H' g2 (st.earlier mm)
    | rt v =>
      have el : (R.ok (.rt v) h' : R Out) = rl := el
      rw [← el] at wi
      exact q _ fun v H' g2 s p r => wi v H' g2 s ⟨p.pre, fun a o z => p.zm a o (mm a o z)⟩ r
theorem SO.for (hτ : τ = none) {tg : Tg} {k : Mi.It} {es : List Te} {body : List Ts} {tg' it' : Expr} {body' : List Stmt} {pos : Pos} (gx : GX X c pg tb G C n) (st : St pg g0 H0 gb τ g H h env σ) (ot : tgB c tg tg' = true) (oi : itB c (okEs c tb false es) tg k it' = true)
    (kb : ∀ h1 H1 gb g1 env1 σ1, St pg g0 H0 gb τ g1 H1 h1 env1 σ1 → SO pg X g0 H0 gb τ (evSs C G W body env1 h1) (fun D => wSs X body' D σ1 H1)) :
    SO pg X g0 H0 gb τ (evS C G W (.for tg k es body) env h) (fun D => wS X (.For tg' it' body' [] pos) D σ H) := by
  have e0 : evS C G W (.for tg k es body) env h = (itR C G k es env h).bind fun items h1 => forLoop (evSs C G W body) tg items env h1 := by
    rw [evS]
    unfold itR
    cases evEs C G es env h with
    | no => rfl
    | ex _ _ => rfl
    | ok xs h1 =>
      show (match evIt k xs with | some items => _ | none => _) = R.bind (match evIt k xs with | some items => _ | none => _) _
      cases evIt k xs <;> rfl
  rw [e0]
  have nst : (∃ is r, tg = .st is r) → False := fun ⟨is, r, e⟩ => by subst e; cases tg' <;> cases ot
  have rule := ps_for (X := X) (pos := pos) (iter := it') (body := body') gx.po gx.calm pi_w (pg_of gx ot) pss_w (folded_of (itB_noSet oi))
  have q1 := SI.all gx oi ⟨c, ot⟩ (fun ees oe => okEs_all es false ees X c g H σ env h gx oe st.sim st.en) (fun e hp oe => okOne_all es e X c g H σ env h gx oe st.sim st.en)
  refine SO.bindE (w2 := fun (J : L2.It) H1 (D : Ends) => ∃ W : Nat → Nat → Sg → Hp → Prop, (∃ m, W 0 m σ H1) ∧ ∀ i m σ H, W i m σ H →
    (J.stop i H ∧ D.nx σ H) ∨ (J.go i H ∧ ∃ N : Sg → Hp → Prop, (∀ σ' H', N σ' H' → ∃ m', m' < m ∧ W (i + 1) m' σ' H') ∧ ∀ x H', J.yld i H x H' → gOf pg.K tg x σ H' fun σ2 H2 => wSs X body' { D with nx := N, ct := N, bk := D.nx } σ2 H2)) q1 st.pt (fun D hq => wS_of rule hq) fun items h1 J H1 g1 _ s1 p1 wk => ?_
  refine SO.of fun D => Fin.of fun wi => ?_
  refine ⟨fun i m σc Hc => m = items.length - i ∧ i ≤ items.length ∧ ∃ gc hc envc, St pg g0 H0 gb τ gc Hc hc envc σc ∧ (∀ a o, g1.Z a = some o → gc.Z a = some o) ∧ forLoop (evSs C G W body) tg (items.drop i) envc hc = forLoop (evSs C G W body) tg items env h1,
    ⟨items.length, by omega, Nat.zero_le _, g1, h1, env, st.later s1 p1, fun _ _ z => z, rfl⟩, ?_⟩
  rintro i m σc Hc ⟨rfl, hi, gc, hc, envc, sc, zm, el⟩
  by_cases hlt : i < items.length
  · refine .inr ⟨wk.go i gc hc Hc sc.sim zm hlt, fun σ' H' => ∃ gc hc envc, St pg g0 H0 gb τ gc H' hc envc σ' ∧ (∀ a o, g1.Z a = some o → gc.Z a = some o) ∧ forLoop (evSs C G W body) tg (items.drop (i + 1)) envc hc = forLoop (evSs C G W body) tg items env h1,
      fun σ' H' hN => ⟨items.length - (i + 1), by omega, rfl, hlt, hN⟩, fun x' H' y => ?_⟩
    obtain ⟨g', y', ei, s', p', ry⟩ := wk.yld i gc hc Hc x' H' sc.sim zm hlt y
    have edrop : items.drop i = y' :: items.drop (i + 1) := by
      rw [List.drop_eq_getElem_cons hlt]
      have := List.getElem?_eq_getElem hlt
      rw [ei] at this
      cases this
      rfl
    rw [edrop] at el
    cases eb : bindTg tg y' envc with
    | none =>
      rw [forLoop, eb] at el
      rw [← el] at wi
      exact wi.elim
    | some env' =>
      rw [forLoop_cons eb] at el
      refine (sc.later s' p').bind hτ nst eb ry fun σ2 st2 => ?_
      exact loop_turn (g1 := g1) (fun a o z => p1.z a o (st.pz.zm a o z)) (fun a o z => p'.z a o (zm a o z)) (kb hc H' g' g' env' σ2 st2.rebase) el wi fun σ3 H3 g3 env3 h3 st3 m3 e3 => ⟨g3, h3, env3, st3, m3, e3⟩
  · have ei : i = items.length := by omega
    subst ei
    rw [List.drop_length, forLoop_stop] at el
    rw [← el] at wi
    exact .inl ⟨wk.stop gc hc Hc sc.sim zm, wi σc Hc gc sc⟩
theorem SO.while {t : Te} {body : List Ts} {t' : Expr} {body' : List Stmt} {pos : Pos} (gx : GX X c pg tb G C n) (st : St pg g0 H0 gb τ g H h env σ) (oe : okE c tb t t' = true)
    (kb : ∀ h1 H1 gb g1 env1 σ1, St pg g0 H0 gb τ g1 H1 h1 env1 σ1 → SO pg X g0 H0 gb τ (evSs C G W body env1 h1) (fun D => wSs X body' D σ1 H1)) :
    SO pg X g0 H0 gb τ (evS C G W (.while t body) env h) (fun D => wS X (.While t' body' [] pos) D σ H) := by
  rw [evS]
  have rule := ps_while (X := X) (pos := pos) (c := t') (body := body') gx.po pt_w pss_w
  refine SO.of fun D => Fin.of fun wi => wS_of rule ?_
  refine ⟨fun m σc Hc => ∃ gc hc envc, St pg g0 H0 gb τ gc Hc hc envc σc ∧ whLoop (fun e g => tru (evE C G t e g)) (evSs C G W body) m envc hc = whLoop (fun e g => tru (evE C G t e g)) (evSs C G W body) W env h, ⟨W, g, h, env, st, rfl⟩, ?_⟩
  rintro m σc Hc ⟨gc, hc, envc, sc, el⟩
  cases m with
  | zero =>
    rw [whLoop] at el
    rw [← el] at wi
    exact wi.elim
  | succ m =>
    rw [whLoop] at el
    have q := (okE_all t _ X c gc Hc σc envc hc gx oe sc.sim sc.en).t
    cases et : tru (evE C G t envc hc) with
    | no =>
      rw [et] at el
      have el : (R.no : R Out) = _ := el
      rw [← el] at wi
      exact wi.elim
    | ex e h' =>
      rw [et] at el q
      have el : (R.ex e h' : R Out) = _ := el
      rw [← el] at wi
      obtain ⟨W', tk, hW⟩ := wi
      exact q W' tk (fun cls dx H' g' s p e => hW cls dx σc H' g' s ⟨sc.pz.trans p, sc.ts⟩ e) _
    | ok b h2 =>
      rw [et] at el q
      refine q _ fun b' H2 g2 s2 p2 rb => ?_
      subst rb
      have st2 := sc.later s2 p2
      cases b with
      | false =>
        have el : (R.ok (.nx envc) h2 : R Out) = _ := el
        rw [← el] at wi
        rw [if_neg Bool.false_ne_true]
        exact wi σc H2 g2 st2
      | true =>
        rw [if_pos rfl]
        refine ⟨fun σ' H' => ∃ gc hc envc, St pg g0 H0 gb τ gc H' hc envc σ' ∧ whLoop (fun e g => tru (evE C G t e g)) (evSs C G W body) m envc hc = whLoop (fun e g => tru (evE C G t e g)) (evSs C G W body) W env h, fun σ' H' hN => ⟨m, Nat.lt_succ_self m, hN⟩, ?_⟩
        exact loop_turn (g1 := gb) (fun _ _ z => z) (fun a o z => st2.pz.zm a o z) (kb h2 H2 g2 g2 envc σc st2.rebase) el wi fun σ3 H3 g3 env3 h3 st3 m3 e3 => ⟨g3, h3, env3, st3, e3⟩
end
end Mi
/-! Mi: raise, try. -/
namespace Mi
open PySem PySem.Spec PyProof.Rows L2
section
variable {pg : Pg} {tb : Tb} {G : Nat → Option PyData} {C : Cf} {n : Nat} {X : Cx} {c : Cd} {g g0 gb : Gh} {τ : Option Sg} {H H0 : Hp} {σ : Sg} {h : Sh} {env : En} {W : Nat}

theorem SO.raise {k j : Nat} {x m : Str} {p p1 p2 p3 : Pos} (gx : GX X c pg tb G C n) (st : St pg g0 H0 gb τ g H h env σ) (og : glB c x = true) (oc : tb.cs k = some x) :
    SO pg X g0 H0 gb τ (evS C G W (.raise k) env h) (fun D => wS X (.Raise (some (.Call (.Name x p) [.Constant (.str m) j p1] [] p2)) none p3) D σ H) := by
  rw [evS]
  obtain ⟨D0, ec, em, K⟩ := gx.ct.cs k x oc
  obtain ⟨o1, o2⟩ := glB_of og
  intro W' tk hW D
  have rs : Raises X (.ref D0) := raises_own (by rw [gx.hK]; exact K.be) (by rw [gx.hK]; exact K.ty)
  refine wS_of (ps_raise gx.calm tk (pmk_own PySem.F.excBase_ValueError (by rw [gx.hK]; exact K.ex) (by rw [gx.hm]; exact em) (by rw [gx.hK]; exact K.kp) rs (gx.gl' o1) o2)) ?_
  exact hW (.ref D0) none σ H g st.sim st.pt ⟨D0, ec, rfl, rfl⟩

/-! ### the except suite -/
/-- the frame of a def's body -/
structure FrX (X : Cx) : Prop where
  hs : X.stack = X.env :: X.outer
  hf : X.env.frame = some X.env.locals
/-- the error that a suite holds -/
structure Held (pg : Pg) (X X' : Cx) (a : Addr) (k : Nat) (D : Addr) : Prop where
  ex : ∃ (oe : Obj) (pn : List (Addr × Obj)), X' = X.suite a ((a, oe) :: pn) ∧ Zc (.ref D) none oe ∧ ∃ vs, oe.data = .fields vs
  cl : pg.cl k = some D
theorem Ht.ok {i k : Nat} {a D : Addr} {X' : Cx} (gx : GX X c pg tb G C n) (hd : Held pg X X' a k D) : ∀ (t : Ht) (e : Expr), okHt c tb i t e = true → PT X' e (fun σ H Q => σ[i]? = some (some (.ref a)) ∧ Q (evHt t k) H)
  | .isx m cls, e, ok => by
    unfold okHt at ok
    split at ok
    all_goals first | (cases ok; done) | (rename_i hq; cases hq; done) | skip
    rename_i hq
    cases hq
    rename_i x p1 y p2 z p3 p4
    simp only [Bool.and_eq_true] at ok
    obtain ⟨⟨⟨⟨⟨⟨⟨h1, h2⟩, h3⟩, h4⟩, h5⟩, h6⟩, h7⟩, h8⟩ := ok
    have h1 := of_decide_eq_true h1
    subst h1
    obtain ⟨oe, pn, rfl, hz, hf⟩ := hd.ex
    obtain ⟨lt, xc⟩ := gx.ct.lt k D hd.cl
    obtain ⟨E, ec, em, K⟩ := gx.ct.cs m z (of_decide_eq_true h7)
    obtain ⟨_, kit⟩ := gx.ct.sb k m D E hd.cl ec
    obtain ⟨o1, o2⟩ := glB_of h2
    obtain ⟨o3, o4⟩ := glB_of h6
    obtain ⟨o5, o6⟩ := plain_dbg h5
    have pv : PE (X.suite a ((a, oe) :: pn)) (.Name y p2) (tVar i) := pe_var (by show X.N[i]? = _; rw [gx.N]; exact of_decide_eq_true h3) (gx.vis h4) o5 o6
    have pz : PE (X.suite a ((a, oe) :: pn)) (.Name z p3) (tC (.ref E)) := pe_glob (gx.gl' o3) (by show X.mg z = _; rw [gx.hm]; exact em) rfl o4
    have rule := pe_callB (X := X.suite a ((a, oe) :: pn)) (p := p1) (pos := p4) (call_isE (by show ExcC X.K D; rw [gx.hK]; exact xc) hz hf) (gx.gl' o1) (bt_nm gx (by decide +kernel)) (by decide +kernel) (pa_cons pv (pa_cons pz pa_nil)) (by decide) o2
    refine ⟨fun pins s σ H Q I q => (pt_val rule).run pins s σ H Q I ?_⟩
    refine ⟨.ref a, q.1, .ref E, .ref E, tb.sub k m, rfl, fun u hu => hu, by show PySem.W.kitOne X.K _ _ = _; rw [gx.hK]; exact kit, _, rfl, ?_⟩
    have e1 : evHt (.isx m cls) k = tb.sub k m := by
      rw [evHt, of_decide_eq_true h8]
      have : (((List.range tb.nc).filter fun j => tb.sub j m).contains k) = decide (k ∈ (List.range tb.nc).filter fun j => tb.sub j m) := by simp
      rw [this]
      cases hb : tb.sub k m with
      | true => exact decide_eq_true (List.mem_filter.mpr ⟨List.mem_range.mpr lt, hb⟩)
      | false => exact decide_eq_false fun z => by rw [(List.mem_filter.mp z).2] at hb; cases hb
    rw [← e1]
    exact q.2
  | .and t u, e, ok => by
    unfold okHt at ok
    split at ok
    all_goals first | (cases ok; done) | (rename_i hq; cases hq; done) | skip
    rename_i hq
    cases hq
    rw [Bool.and_eq_true] at ok
    have q1 := Ht.ok gx hd t _ ok.1
    have q2 := Ht.ok gx hd u _ ok.2
    refine ⟨fun pins s σ H Q I q => (pw_and q1 (pw_and1 q2)).run _ pins s σ H Q I ⟨q.1, ?_⟩⟩
    have q := q
    rw [evHt] at q
    cases hb : evHt t k with
    | true => rw [hb, Bool.true_and] at q; exact q
    | false => rw [hb, Bool.false_and] at q; exact q.2
  | .or t u, e, ok => by
    unfold okHt at ok
    split at ok
    all_goals first | (cases ok; done) | (rename_i hq; cases hq; done) | skip
    rename_i hq
    cases hq
    rw [Bool.and_eq_true] at ok
    have q1 := Ht.ok gx hd t _ ok.1
    have q2 := Ht.ok gx hd u _ ok.2
    refine ⟨fun pins s σ H Q I q => (pw_or q1 (pw_or1 q2)).run _ pins s σ H Q I ⟨q.1, ?_⟩⟩
    have q := q
    rw [evHt] at q
    cases hb : evHt t k with
    | false => rw [hb, Bool.false_or] at q; exact q
    | true => rw [hb, Bool.true_or] at q; exact q.2
  | .not t, e, ok => by
    unfold okHt at ok
    split at ok
    all_goals first | (cases ok; done) | (rename_i hq; cases hq; done) | skip
    rename_i hq
    cases hq
    have q1 := Ht.ok gx hd t _ ok
    exact ⟨fun pins s σ H Q I q => (pt_not q1).run pins s σ H Q I ⟨q.1, by have := q.2; rw [evHt] at this; exact this⟩⟩
/-- plain data, told without a heap -/
theorem He.ok {i k : Nat} {a D : Addr} {X' : Cx} (gx : GX X c pg tb G C n) (hd : Held pg X X' a k D) : ∀ (t : He) (e : Expr), okH c tb i t e = true → PE X' e (fun σ H Q => σ[i]? = some (some (.ref a)) ∧ ∀ v, Rp pg.K (fun _ => none) (evH t k) v → Q v H)
  | .cst d, e, ok => by
    unfold okH at ok
    split at ok
    all_goals first | (cases ok; done) | (rename_i hq; cases hq; done) | skip
    rename_i hq
    cases hq
    unfold cstB at ok
    refine ⟨fun pins s σ H Q I q => ?_⟩
    have q := q.2
    split at ok
    · exact pe_non.run pins s σ H Q I (q _ (by simp only [evH, Rp]))
    · cases eq_of_beq ok; exact pe_bl.run pins s σ H Q I (q _ (by simp only [evH, Rp]))
    · cases eq_of_beq ok; exact pe_int.run pins s σ H Q I (q _ (by simp only [evH, Rp]))
    · cases eq_of_beq ok; exact pe_str.run pins s σ H Q I (q _ (by simp only [evH, Rp]))
    · cases ok
  | .ite t x y, e, ok => by
    unfold okH at ok
    split at ok
    all_goals first | (cases ok; done) | (rename_i hq; cases hq; done) | skip
    rename_i hq
    cases hq
    simp only [Bool.and_eq_true] at ok
    obtain ⟨⟨h1, h2⟩, h3⟩ := ok
    refine ⟨fun pins s σ H Q I q => (pe_ifExp (Ht.ok gx hd t _ h1) (He.ok gx hd x _ h2) (He.ok gx hd y _ h3)).run pins s σ H Q I ⟨q.1, ?_⟩⟩
    have q := q
    cases hb : evHt t k with
    | true =>
      refine (if_pos rfl : (if true = true then _ else _) = _).mpr ⟨q.1, fun v r => q.2 v ?_⟩
      rw [evH, hb]; exact r
    | false =>
      refine (if_neg Bool.false_ne_true : (if false = true then _ else _) = _).mpr ⟨q.1, fun v r => q.2 v ?_⟩
      rw [evH, hb]; exact r
theorem GX.try (gx : GX X c pg tb G C n) {pn : List (Addr × Obj)} {xe : Value → Shared → Prop} (po : PassesOwn (model X.prog X.w) X.A X.env xe) : GX (X.tr pn xe) c pg tb G C n :=
  ⟨gx.hP, gx.hw, gx.hK, gx.hm, gx.hb, gx.N, gx.nd, gx.sc, gx.kd, gx.fn, gx.calm, po, gx.room, gx.gd, gx.gl, gx.bt, gx.ct, gx.cl⟩
theorem St.tau {τ' : Option Sg} (st : St pg g0 H0 gb τ g H h env σ) (ts : ∀ s, τ' = some s → σ = s) : St pg g0 H0 gb τ' g H h env σ := ⟨st.sim, st.pz, st.en, st.fr, ts⟩
theorem SO.tryE {body : List Ts} {k i : Nat} {cls : List Nat} {hd : He} {body' : List Stmt} {x nm : Str} {e' : Expr} {p1 p2 p3 p4 : Pos} (gx : GX X c pg tb G C n) (hs : X.stack = X.env :: X.outer) (hf : X.env.frame = some X.env.locals) (st : St pg g0 H0 gb τ g H h env σ)
    (og : glB c x = true) (oc : tb.cs k = some x) (ol : cls = (List.range tb.nc).filter fun j => tb.sub j k) (oN : c.N[i]? = some nm) (ok : c.sc.names.lookup nm = some .local) (oh : okH c tb i hd e' = true)
    (kb : ∀ (X' : Cx), GX X' c pg tb G C n → FrX X' → SO pg X' g0 H0 gb (some σ) (evSs C G W body env h) (fun D => wSs X' body' D σ H)) :
    SO pg X g0 H0 gb τ (evS C G W (.tryE body k cls i hd) env h) (fun D => wS X (.Try body' [.ExceptHandler (some (.Name x p1)) (some nm) [.Return (some e') p2] p3] [] [] p4) D σ H) := by
  rw [evS]
  obtain ⟨o1, o2⟩ := glB_of og
  obtain ⟨E, ec, em, K⟩ := gx.ct.cs k x oc
  have hln : X.env.kindOf nm = some .local := by show X.env.scope.names.lookup nm = _; rw [gx.sc]; exact ok
  have names : Names X x (.ref E) := ⟨gx.gl' o1, o2, .inl (by rw [gx.hm]; exact em)⟩
  have rule := fun (Wout : WX) (tk : Takes X Wout) => ps_try_as (X := X) (np := p1) (pos := p4) (pos' := p3) (body := body') (b₀ := .Return (some e') p2) (suite := []) (i := i) (Wout := Wout)
    (tb := fun W D σ H => ∀ pn xe, Takes (X.tr pn xe) W → PassesOwn (model X.prog X.w) X.A X.env xe → wSs (X.tr pn xe) body' D σ H)
    (ts := fun a cls d D σ H => ∀ oe pn, Zc cls d oe → (∃ vs, oe.data = .fields vs) → wSs (X.suite a ((a, oe) :: pn)) [.Return (some e') p2] D σ H)
    hs hf (by rw [gx.N]; exact gx.nd) (by rw [gx.N]; exact oN) hln names tk (fun W pn xe tk po => ⟨fun pins s σ H D I q => q pn xe tk po pins s I⟩) (fun a oe cls d pn hz hv => ⟨fun pins s σ H D I q => q oe pn hz hv pins s I⟩)
  have ts' : ∀ {σ' : Sg} {g' : Gh} {H' : Hp} {h' : Sh} {env' : En}, St pg g0 H0 gb (some σ) g' H' h' env' σ' → St pg g0 H0 gb τ g' H' h' env' σ' := fun q => q.tau fun s e => (q.ts σ rfl).trans (st.ts s e)
  cases hr : evSs C G W body env h with
  | no => exact trivial
  | ok o h' =>
    have go : ∀ D : Ends, (∀ X', GX X' c pg tb G C n → FrX X' → wSs X' body' D σ H) → wS X (.Try body' [.ExceptHandler (some (.Name x p1)) (some nm) [.Return (some e') p2] p3] [] [] p4) D σ H := fun D q =>
      wS_of (rule _ takes0) fun pn xe tk po => q (X.tr pn xe) (gx.try po) (FrX.mk (X := X.tr pn xe) hs hf)
    cases o with
    | nx env' =>
      refine fun D hD => go D fun X' gx' fx' => ?_
      have q := kb X' gx' fx'
      rw [hr] at q
      exact q D fun σ' H' g' st' => hD σ' H' g' (ts' st')
    | bk env' =>
      refine fun D hD => go D fun X' gx' fx' => ?_
      have q := kb X' gx' fx'
      rw [hr] at q
      exact q D fun σ' H' g' st' => hD σ' H' g' (ts' st')
    | ct env' =>
      refine fun D hD => go D fun X' gx' fx' => ?_
      have q := kb X' gx' fx'
      rw [hr] at q
      exact q D fun σ' H' g' st' => hD σ' H' g' (ts' st')
    | rt v =>
      refine fun D hD => go D fun X' gx' fx' => ?_
      have q := kb X' gx' fx'
      rw [hr] at q
      exact q D hD
  | ex er h' =>
    -- an error of the body
    have key : ∀ (D : Ends) (Wout : WX), Takes X Wout → (∀ cls dx σ' H' g', σ' = σ → Sim pg.K g' h' H' → PZ g0 H0 gb g' H' → ErR pg er cls dx H' g' → wAs X.K (.ref E) i (fun a cls d D σ H => ∀ oe pn, Zc cls d oe → (∃ vs, oe.data = .fields vs) → wSs (X.suite a ((a, oe) :: pn)) [.Return (some e') p2] D σ H) Wout D cls dx σ' H') →
        wS X (.Try body' [.ExceptHandler (some (.Name x p1)) (some nm) [.Return (some e') p2] p3] [] [] p4) D σ H := fun D Wout tk q => by
      refine wS_of (rule Wout tk) fun pn xe tk' po => ?_
      have q2 := kb (X.tr pn xe) (gx.try po) (FrX.mk (X := X.tr pn xe) hs hf)
      rw [hr] at q2
      exact q2 _ tk' (fun cls dx σ' H' g' s p e => q cls dx σ' H' g' (p.ts σ rfl) s p.pz e) D
    have cont : cls.contains er.c = true → ∀ D0, pg.cl er.c = some D0 → tb.sub er.c k = true := fun hc D0 e0 => by
      rw [ol] at hc
      have := (List.mem_filter.mp (by simpa using hc : er.c ∈ (List.range tb.nc).filter fun j => tb.sub j k)).2
      exact this
    have ncont : cls.contains er.c = false → ∀ D0, pg.cl er.c = some D0 → tb.sub er.c k = false := fun hc D0 e0 => by
      cases hb : tb.sub er.c k with
      | false => rfl
      | true =>
        have : cls.contains er.c = true := by
          rw [ol]
          have m : er.c ∈ (List.range tb.nc).filter fun j => tb.sub j k := List.mem_filter.mpr ⟨List.mem_range.mpr (gx.ct.lt _ _ e0).1, hb⟩
          simpa using m
        rw [hc] at this; cases this
    dsimp only
    cases hc : cls.contains er.c with
    | true =>
      rw [if_pos rfl]
      cases ev : er.v with
      | some _ => exact trivial
      | none =>
      refine fun D hD => key D _ takes0 fun cl dx σ' H' g' es s' p' er' => ?_
      subst es
      obtain ⟨D0, e0, rfl, hv⟩ := er'
      have hsub := cont hc D0 e0
      refine ⟨true, by rw [gx.hK, ← hsub]; exact (gx.ct.sb _ _ _ _ e0 ec).1, fun _ a na oe pn hz hvs => ?_, (fun z => nomatch z)⟩
      rw [ev] at hv
      subst hv
      have hh : Held pg X (X.suite a ((a, oe) :: pn)) a er.c D0 := ⟨⟨oe, pn, rfl, hz, hvs⟩, e0⟩
      intro pins s I
      have iN : i < X.N.length := by
        rw [gx.N]
        exact (List.getElem?_eq_some_iff.mp oN).1
      have lenE : i < σ'.length := by
        have := I.len
        rw [List.length_set] at this
        rw [this]
        exact iN
      refine (pss_one (ps_ret (He.ok gx hh hd e' oh))).run pins s _ _ _ I ⟨by rw [List.getElem?_set_self lenE], fun v r => ?_⟩
      exact hD v H' g' s' p' (Rp.mono (fun a o y => by cases y) _ _ r)
    | false =>
      rw [if_neg Bool.false_ne_true]
      refine fun W' tk hW D => key D W' tk fun cl dx σ' H' g' es s' p' er' => ?_
      subst es
      have er2 := er'
      obtain ⟨D0, e0, rfl, hv⟩ := er'
      have hsub := ncont hc D0 e0
      exact ⟨false, by rw [gx.hK, ← hsub]; exact (gx.ct.sb _ _ _ _ e0 ec).1, (fun z => nomatch z), fun _ => hW _ _ _ _ g' s' ⟨p', st.ts⟩ er2⟩
end
end Mi
/-! Mi: all statements: the recursion. -/
namespace Mi
open PySem PySem.Spec PyProof.Rows L2
section
variable {pg : Pg} {tb : Tb} {G : Nat → Option PyData} {C : Cf} {n : Nat}
theorem ton {τ : Option Sg} {s : Ts} (hτ : τ = none ∨ noAsg s = true) (hn : noAsg s = false) : τ = none := hτ.elim id fun z => by rw [hn] at z; cases z
theorem tcs {s : Ts} {ss : List Ts} (z : noAsgs (s :: ss) = true) : noAsg s = true ∧ noAsgs ss = true := by
  rw [noAsgs, Bool.and_eq_true] at z
  exact z
theorem tif {t : Te} {a b : List Ts} (z : noAsg (.iff t a b) = true) : noAsgs a = true ∧ noAsgs b = true := by
  rw [noAsg, Bool.and_eq_true] at z
  exact z
theorem okTs_cons {c : Cd} {s : Ts} {ss : List Ts} {sts : List Stmt} (hf : (∃ i, s = .freeze i) → False) (ok : okTs c tb (s :: ss) sts = true) : ∃ st r, sts = st :: r ∧ okT c tb s st = true ∧ okTs c tb ss r = true := by
  cases sts with
  | nil =>
    cases s <;> first | (exact (hf ⟨_, rfl⟩).elim) | (simp [okTs] at ok)
  | cons st r =>
    refine ⟨st, r, rfl, ?_⟩
    cases s <;> first | (exact (hf ⟨_, rfl⟩).elim) | (simpa [okTs] using ok)
mutual
theorem okT_all (W : Nat) : ∀ (s : Ts) (st' : Stmt) (X : Cx) (c : Cd) (g0 : Gh) (H0 : Hp) (gb : Gh) (τ : Option Sg) (g : Gh) (H : Hp) (h : Sh) (env : En) (σ : Sg), GX X c pg tb G C n → FrX X → (τ = none ∨ noAsg s = true) → okT c tb s st' = true → St pg g0 H0 gb τ g H h env σ → SO pg X g0 H0 gb τ (evS C G W s env h) (fun D => wS X st' D σ H)
  | .doc => by
    intro st' X c g0 H0 gb τ g H h env σ gx fx hτ ok st
    unfold okT at ok
    split at ok
    all_goals first | (cases ok; done) | (rename_i hq; cases hq; done) | skip
    rename_i hq
    cases hq
    exact SO.doc st
  | .asg tg e => by
    intro st' X c g0 H0 gb τ g H h env σ gx fx hτ ok st
    unfold okT at ok
    split at ok
    all_goals first | (cases ok; done) | (rename_i hq; cases hq; done) | skip
    · rename_i hq
      cases hq
      simp only [Bool.and_eq_true] at ok
      obtain ⟨⟨⟨o1, o2⟩, o3⟩, o4⟩ := ok
      exact SO.star (ton hτ rfl) gx st o1 o2 o3 (npk o4)
    · rename_i hq
      cases hq
      simp only [Bool.and_eq_true] at ok
      obtain ⟨⟨⟨o1, o2⟩, o3⟩, o4⟩ := ok
      exact SO.asg (ton hτ rfl) gx st o1 o2 (npk o3) o4
  | .own i l => by
    intro st' X c g0 H0 gb τ g H h env σ gx fx hτ ok st
    unfold okT at ok
    split at ok
    all_goals first | (cases ok; done) | (rename_i hq; cases hq; done) | skip
    rename_i hq
    cases hq
    simp only [Bool.and_eq_true] at ok
    obtain ⟨⟨o1, o2⟩, o3⟩ := ok
    exact SO.own (ton hτ rfl) gx st o1 o2 o3
  | .par is es => by
    intro st' X c g0 H0 gb τ g H h env σ gx fx hτ ok st
    unfold okT at ok
    split at ok
    all_goals first | (cases ok; done) | (rename_i hq; cases hq; done) | skip
    rename_i hq
    cases hq
    simp only [Bool.and_eq_true] at ok
    obtain ⟨o1, o2⟩ := ok
    exact SO.par (ton hτ rfl) gx st o1 o2
  | .aug i op e => by
    intro st' X c g0 H0 gb τ g H h env σ gx fx hτ ok st
    unfold okT at ok
    split at ok
    all_goals first | (cases ok; done) | (rename_i hq; cases hq; done) | skip
    rename_i hq
    cases hq
    simp only [Bool.and_eq_true] at ok
    obtain ⟨⟨⟨⟨o1, o2⟩, o3⟩, o4⟩, o5⟩ := ok
    have o2 := of_decide_eq_true o2
    subst o2
    have o3 : op = .Add ∨ op = .Sub := by
      rw [Bool.or_eq_true] at o3
      exact o3.imp of_decide_eq_true of_decide_eq_true
    exact SO.aug (ton hτ rfl) gx st o1 o3 o4 (npk o5)
  | .setix r i e => by
    intro st' X c g0 H0 gb τ g H h env σ gx fx hτ ok st
    unfold okT at ok
    split at ok
    all_goals first | (cases ok; done) | (rename_i hq; cases hq; done) | skip
    rename_i hq
    cases hq
    simp only [Bool.and_eq_true] at ok
    obtain ⟨⟨⟨⟨⟨⟨⟨o1, o2⟩, o3⟩, o4⟩, o5⟩, o6⟩, o7⟩, o8⟩ := ok
    exact SO.setix gx st o1 o2 o3 o4 o5 (npk o6) (npk o7) (npk o8)
  | .ownix s i e => by
    intro st' X c g0 H0 gb τ g H h env σ gx fx hτ ok st
    unfold okT at ok
    split at ok
    all_goals first | (cases ok; done) | (rename_i hq; cases hq; done) | skip
    rename_i hq
    cases hq
    simp only [Bool.and_eq_true] at ok
    obtain ⟨⟨⟨⟨⟨⟨o1, o2⟩, o3⟩, o4⟩, o5⟩, o6⟩, o7⟩ := ok
    exact SO.ownix gx st o1 o2 o3 o4 o5 (npk o6) (npk o7)
  | .app s e => by
    intro st' X c g0 H0 gb τ g H h env σ gx fx hτ ok st
    unfold okT at ok
    split at ok
    all_goals first | (cases ok; done) | (rename_i hq; cases hq; done) | skip
    rename_i hq
    cases hq
    simp only [Bool.and_eq_true] at ok
    obtain ⟨⟨⟨⟨⟨o1, o2⟩, o3⟩, o4⟩, o5⟩, o6⟩ := ok
    exact SO.app gx st (of_decide_eq_true o1) o2 o3 (npk o4) o5 o6
  | .ext s e => by
    intro st' X c g0 H0 gb τ g H h env σ gx fx hτ ok st
    unfold okT at ok
    split at ok
    all_goals first | (cases ok; done) | (rename_i hq; cases hq; done) | skip
    rename_i hq
    cases hq
    simp only [Bool.and_eq_true] at ok
    obtain ⟨⟨⟨⟨o1, o2⟩, o3⟩, o5⟩, o6⟩ := ok
    exact SO.ext gx st (of_decide_eq_true o1) o2 o3 o5 o6
  | .expr e => by
    intro st' X c g0 H0 gb τ g H h env σ gx fx hτ ok st
    unfold okT at ok
    split at ok
    all_goals first | (cases ok; done) | (rename_i hq; cases hq; done) | skip
    rename_i hq
    cases hq
    simp only [Bool.and_eq_true] at ok
    obtain ⟨o1, o2⟩ := ok
    exact SO.expr gx st o1 o2
  | .ret e => by
    intro st' X c g0 H0 gb τ g H h env σ gx fx hτ ok st
    unfold okT at ok
    split at ok
    all_goals first | (cases ok; done) | (rename_i hq; cases hq; done) | skip
    rename_i hq
    cases hq
    simp only [Bool.and_eq_true] at ok
    obtain ⟨o1, o2⟩ := ok
    exact SO.ret gx st o1 (npk o2)
  | .retN => by
    intro st' X c g0 H0 gb τ g H h env σ gx fx hτ ok st
    unfold okT at ok
    split at ok
    all_goals first | (cases ok; done) | (rename_i hq; cases hq; done) | skip
    rename_i hq
    cases hq
    exact SO.retN st
  | .iff t a b => by
    intro st' X c g0 H0 gb τ g H h env σ gx fx hτ ok st
    unfold okT at ok
    split at ok
    all_goals first | (cases ok; done) | (rename_i hq; cases hq; done) | skip
    rename_i hq
    cases hq
    simp only [Bool.and_eq_true] at ok
    obtain ⟨⟨o1, o2⟩, o3⟩ := ok
    exact SO.iff gx st o1 (fun h1 H1 g1 st1 => okTs_all W a _ X c g0 H0 gb τ g1 H1 h1 env σ gx fx (hτ.imp id fun z => (tif z).1) o2 st1) (fun h1 H1 g1 st1 => okTs_all W b _ X c g0 H0 gb τ g1 H1 h1 env σ gx fx (hτ.imp id fun z => (tif z).2) o3 st1)
  | .for tg k es body => by
    intro st' X c g0 H0 gb τ g H h env σ gx fx hτ ok st
    unfold okT at ok
    split at ok
    all_goals first | (cases ok; done) | (rename_i hq; cases hq; done) | skip
    rename_i hq
    cases hq
    simp only [Bool.and_eq_true] at ok
    obtain ⟨⟨o1, o2⟩, o3⟩ := ok
    exact SO.for (ton hτ rfl) gx st o1 o2 (fun h1 H1 gb1 g1 env1 σ1 st1 => okTs_all W body _ X c g0 H0 gb1 τ g1 H1 h1 env1 σ1 gx fx (.inl (ton hτ rfl)) o3 st1)
  | .while t body => by
    intro st' X c g0 H0 gb τ g H h env σ gx fx hτ ok st
    unfold okT at ok
    split at ok
    all_goals first | (cases ok; done) | (rename_i hq; cases hq; done) | skip
    rename_i hq
    cases hq
    simp only [Bool.and_eq_true] at ok
    obtain ⟨o1, o2⟩ := ok
    exact SO.while gx st o1 (fun h1 H1 gb1 g1 env1 σ1 st1 => okTs_all W body _ X c g0 H0 gb1 τ g1 H1 h1 env1 σ1 gx fx (.inl (ton hτ rfl)) o2 st1)
  | .brk => by
    intro st' X c g0 H0 gb τ g H h env σ gx fx hτ ok st
    unfold okT at ok
    split at ok
    all_goals first | (cases ok; done) | (rename_i hq; cases hq; done) | skip
    rename_i hq
    cases hq
    rw [evS]
    exact fun D hD => wS_of ps_break (hD σ H g st)
  | .cont => by
    intro st' X c g0 H0 gb τ g H h env σ gx fx hτ ok st
    unfold okT at ok
    split at ok
    all_goals first | (cases ok; done) | (rename_i hq; cases hq; done) | skip
    rename_i hq
    cases hq
    rw [evS]
    exact fun D hD => wS_of ps_continue (hD σ H g st)
  | .pass => by
    intro st' X c g0 H0 gb τ g H h env σ gx fx hτ ok st
    unfold okT at ok
    split at ok
    all_goals first | (cases ok; done) | (rename_i hq; cases hq; done) | skip
    rename_i hq
    cases hq
    rw [evS]
    exact fun D hD => wS_of ps_pass (hD σ H g st)
  | .raise k => by
    intro st' X c g0 H0 gb τ g H h env σ gx fx hτ ok st
    unfold okT at ok
    split at ok
    all_goals first | (cases ok; done) | (rename_i hq; cases hq; done) | skip
    rename_i hq
    cases hq
    simp only [Bool.and_eq_true] at ok
    obtain ⟨o1, o2⟩ := ok
    exact SO.raise gx st o1 (of_decide_eq_true o2)
  | .tryE body k cls i hd => by
    intro st' X c g0 H0 gb τ g H h env σ gx fx hτ ok st
    unfold okT at ok
    split at ok
    all_goals first | (cases ok; done) | (rename_i hq; cases hq; done) | skip
    rename_i hq
    cases hq
    simp only [Bool.and_eq_true] at ok
    obtain ⟨⟨⟨⟨⟨⟨⟨o1, o2⟩, o3⟩, o4⟩, o5⟩, o6⟩, o7⟩, o8⟩ := ok
    exact SO.tryE gx fx.hs fx.hf st o3 (of_decide_eq_true o4) (of_decide_eq_true o5) (of_decide_eq_true o6) (of_decide_eq_true o7) o8 (fun X1 gx1 fx1 => okTs_all W body _ X1 c g0 H0 gb (some σ) g H h env σ gx1 fx1 (.inr o2) o1 (st.tau fun s e => by cases e; rfl))
  | .freeze i => by
    intro st' X c g0 H0 gb τ g H h env σ gx fx hτ ok st
    cases st' <;> cases ok
theorem okTs_all (W : Nat) : ∀ (ss : List Ts) (sts : List Stmt) (X : Cx) (c : Cd) (g0 : Gh) (H0 : Hp) (gb : Gh) (τ : Option Sg) (g : Gh) (H : Hp) (h : Sh) (env : En) (σ : Sg), GX X c pg tb G C n → FrX X → (τ = none ∨ noAsgs ss = true) → okTs c tb ss sts = true → St pg g0 H0 gb τ g H h env σ → SO pg X g0 H0 gb τ (evSs C G W ss env h) (fun D => wSs X sts D σ H)
  | [], sts, X, c, g0, H0, gb, τ, g, H, h, env, σ, gx, fx, hτ, ok, st => by
    cases sts with
    | cons _ _ => simp [okTs] at ok
    | nil =>
      rw [evSs]
      exact SO.nx st fun D hd => wSs_of pss_nil hd
  | s :: ss, sts, X, c, g0, H0, gb, τ, g, H, h, env, σ, gx, fx, hτ, ok, st => by
    rw [evSs]
    by_cases hf : ∃ i, s = .freeze i
    · obtain ⟨i, rfl⟩ := hf
      have ok : okTs c tb ss sts = true := by
        cases sts <;> simpa [okTs] using ok
      rw [evS]
      split
      · rename_i xs eo
        obtain ⟨g', st'⟩ := st.freeze eo
        exact okTs_all W ss sts X c g0 H0 gb τ g' H h _ σ gx fx (hτ.imp id fun z => (tcs z).2) ok st'
      · exact trivial
    · obtain ⟨st1, r, rfl, o1, o2⟩ := okTs_cons hf ok
      exact SO.cons (okT_all W s st1 X c g0 H0 gb τ g H h env σ gx fx (hτ.imp id fun z => (tcs z).1) o1 st) fun env' h' σ' H' g' _ st' => okTs_all W ss r X c g0 H0 gb τ g' H' h' env' σ' gx fx (hτ.imp id fun z => (tcs z).2) o2 st'
end
end
end Mi
/-! Mi: defs; the law's call. -/
namespace Mi
open PySem PySem.Spec PyProof.Rows L2

structure DefOk (tb : Tb) (st : Stmt) (F : Fd) (N ps : List Str) : Prop where
  sc : FnScope N ps (defScope st)
  n : F.n = N.length
  p : F.ps = ps.length
  body : okTs ⟨N, defScope st, fun _ => true⟩ tb F.body (defBody st) = true
/-- a def as it stands, with defaults or without -/
structure FnD (K : PySem.W.Frag) (x : Str) (st : Stmt) (f : Addr) (fd : FuncData) : Prop where
  ex : ∃ (oc : Value) (od : Option Addr) (dV kV doc pm : Value) (an : Option Addr) (cdv ct : Value) (osl : Array (Option Value)),
    fd = PySem.W.fnOf x x (defArgs st) (defBody st) (defScope st) dV kV doc pm an cdv ct ∧ K.lookup f = some ⟨oc, od, .func fd, osl⟩ ∧ PySem.W.codeIn K cdv x = true
  kp : PySem.W.keepIn K (.ref f) = true
structure FnK (pg : Pg) (tb : Tb) (Φ : Nat → Option Fd) (i : Nat) (x : Str) (f : Addr) (fd : FuncData) (ps : List Str) : Prop where
  ex : ∃ F st N y, Φ i = some F ∧ DefOk tb st F N ps ∧ FnD pg.K y st f fd ∧ Binds pg.K fd ps [] ∧ ∃ us0 vs0, Binds pg.K fd ps us0 ∧ Vals vs0 us0 ∧ RpL pg.K (fun _ => none) F.df vs0
structure PrOk (pg : Pg) (tb : Tb) (Φ : Nat → Option Fd) (G : Nat → Option PyData) (pz : Nat → List Str) : Prop where
  fn : ∀ i x, tb.fn i = some x → ∃ f fd ps, pg.mg x = some (.ref f) ∧ FnK pg tb Φ i x f fd ps ∧ ps = pz i
  gl : ∀ i x, tb.gl i = some x → ∀ d, G i = some d → ∃ u v, pg.mg x = some u ∧ RelV v u ∧ Rp pg.K (fun _ => none) d v
  bt : ∀ x ∈ bNames, pg.mg x = none
  ct : ClsT pg tb

theorem VlRL.length {K : PySem.W.Frag} {g : Gh} : ∀ {xs : List Vl} {vs : List V}, VlRL K g xs vs → vs.length = xs.length
  | [], _, r => by
    have r : _ = [] := r
    rw [r]; rfl
  | x :: xs, _, ⟨v, t, e, _, r⟩ => by rw [e, List.length_cons, List.length_cons, VlRL.length r]
theorem VlRL.get {K : PySem.W.Frag} {g : Gh} : ∀ {xs : List Vl} {vs : List V} {i : Nat} {x : Vl}, VlRL K g xs vs → xs[i]? = some x → ∃ v, vs[i]? = some v ∧ VlR K g x v
  | [], _, _, _, _, e => by simp at e
  | y :: ys, _, 0, x, ⟨v, t, e1, r1, r2⟩, e => by
    simp at e
    subst e e1
    exact ⟨v, rfl, r1⟩
  | y :: ys, _, i + 1, x, ⟨v, t, e1, r1, r2⟩, e => by
    subst e1
    obtain ⟨u, q1, q2⟩ := VlRL.get (i := i) r2 (by simpa using e)
    exact ⟨u, by simpa using q1, q2⟩
theorem EnR.start {K : PySem.W.Frag} {g : Gh} {H : Hp} {n : Nat} {N : List Str} {xs : List Vl} {vs : List V} (hn : n = N.length) (r : VlRL K g xs vs) : EnR K g H (startE n xs) (L2.start N vs) := by
  have hl := r.length
  have no : ∀ {i : Nat} {ys : List PyData}, (startE n xs)[i]? ≠ some (.own ys) := fun {i ys} e => by
    unfold startE at e
    by_cases hi : i < xs.length
    · rw [List.getElem?_append_left (by simpa using hi), List.getElem?_map] at e
      cases q : xs[i]? with
      | none => rw [q] at e; cases e
      | some z => rw [q] at e; cases e
    · rw [List.getElem?_append_right (by simpa using hi), List.getElem?_replicate] at e
      split at e <;> cases e
  refine ⟨by unfold startE L2.start; simp [hl, hn], fun i s e => ?_, fun i j ys zs a e1 => (no e1).elim⟩
  unfold startE at e
  unfold L2.start
  by_cases hi : i < xs.length
  · rw [List.getElem?_append_left (by simpa using hi), List.getElem?_map] at e
    rw [List.getElem?_append_left (by simpa [hl] using hi), List.getElem?_map]
    cases q : xs[i]? with
    | none => rw [q] at e; cases e
    | some z =>
      rw [q] at e; cases e
      obtain ⟨v, q1, q2⟩ := r.get q
      rw [q1]
      exact ⟨_, rfl, v, rfl, q2⟩
  · rw [List.getElem?_append_right (by simpa using hi), List.getElem?_replicate] at e
    rw [List.getElem?_append_right (by simpa [hl] using hi), List.getElem?_replicate]
    split at e
    · rename_i hk
      cases e
      rw [if_pos (by simp [hl] at hk ⊢; omega)]
      exact ⟨_, rfl, trivial⟩
    · cases e
theorem St.start {pg : Pg} {g : Gh} {H : Hp} {h : Sh} {n : Nat} {N : List Str} {xs : List Vl} {vs : List V} (s : Sim pg.K g h H) (hn : n = N.length) (r : VlRL pg.K g xs vs) : St pg g H g none g H h (startE n xs) (L2.start N vs) := by
  refine ⟨s, ⟨Pres.refl, fun _ _ e => e⟩, EnR.start hn r, fun i ys a e => ?_, fun _ e => nomatch e⟩
  exfalso
  unfold startE at e
  by_cases hi : i < xs.length
  · rw [List.getElem?_append_left (by simpa using hi), List.getElem?_map] at e
    cases q : xs[i]? with
    | none => rw [q] at e; cases e
    | some z => rw [q] at e; cases e
  · rw [List.getElem?_append_right (by simpa using hi), List.getElem?_replicate] at e
    split at e <;> cases e

section
variable {pg : Pg} {tb : Tb} {Φ : Nat → Option Fd} {G : Nat → Option PyData} {W : Nat}
theorem callF_len {k i : Nat} {xs : List Vl} {h : Sh} {F : Fd} (e : Φ i = some F) (q : callF Φ G W k i xs h ≠ .no) : xs.length = F.ps ∨ (xs.length + F.df.length = F.ps ∧ callF Φ G W k i xs h = callF Φ G W k i (xs ++ F.df.map .d) h) := by
  cases k with
  | zero => exact (q rfl).elim
  | succ k =>
    rw [callF, e] at q
    dsimp only at q
    by_cases c1 : xs.length = F.ps
    · exact .inl c1
    · rw [if_neg c1] at q
      by_cases c2 : xs.length + F.df.length = F.ps
      · refine .inr ⟨c2, ?_⟩
        rw [callF, callF, e]
        dsimp only
        rw [if_neg c1, if_pos c2, if_pos (by rw [List.length_append, List.length_map]; exact c2)]
      · rw [if_neg c2] at q
        exact (q rfl).elim
theorem fnG_all {pz : Nat → List Str} (P : PrOk pg tb Φ G pz) : ∀ (k i : Nat) (x : Str) (f : Addr) (fd : FuncData) (ps : List Str), FnK pg tb Φ i x f fd ps → FnG pg k f fd ps (callF Φ G W k i)
  | 0, i, x, f, fd, ps, K => ⟨fun A outer s H args us vs xs h g Q E hr hg e0 hb rv hl sm r q => (show False from q).elim⟩
  | k + 1, i, x, f, fd, ps, K => by
    obtain ⟨F, st, N, nm, eF, D, Fu, bd, _⟩ := K.ex
    refine ⟨fun A outer s H args us vs xs h g Q E hr hg e0 hb rv hl sm r q => ?_⟩
    obtain ⟨oc, od, dV, kV, doc, pm, an, cdv, ct, osl, rfl, lk, hcd⟩ := Fu.ex
    have S := D.sc
    have KX : pg.K.In s.heap := e0.mod.kin.keeps fun b o e => (e0.bs b o e).1
    have lim : s.heap.NoLimit := e0.mod.nolimit.keeps fun b o e => (e0.bs b o e).1
    have hkind : ∀ y ∈ ps.zip us, (defScope st).names.lookup y.1 = some .local ∨ ((defScope st).names.lookup y.1 = some .cell ∧ ((cellsFrom (s.heap.objs.size + 1) (defScope st).names []).lookup y.1).isSome = true) := fun y hy =>
      (S.par y.1 (List.of_mem_zip (a := y.1) (b := y.2) hy).1).imp id fun q => ⟨q, PySem.W.cellsFrom_some _ _ _ (.inl q)⟩
    refine codeAny_call_function hr.depth (KX _ _ lk) rfl S.co S.gen rfl (PySem.W.codeRec_of KX hcd) (hb _ _ _ _ ?_)
    refine wpAny_newFunctionEnv_cells S.kind hkind fun env he s1 hx => ?_
    subst he
    refine ⟨lim.keeps hx.toInCall.keep, codeAny_func ?_⟩
    have I := inv_start (CX := L2.CX pg.P pg.w) (qual := nm) (E := E) S hr.hd e0 hl rv hx
    have gx : GX (cxOf (L2.CX pg.P pg.w) pg.P pg.w pg.K pg.mg pg.base N nm (defScope st) f cdv A outer s H E) ⟨N, defScope st, fun _ => true⟩ pg tb G (callF Φ G W k) k :=
      ⟨rfl, rfl, rfl, rfl, rfl, rfl, S.nd, rfl, S.kind, rfl, rfl, passes_of rfl, hr.deeper _, hg, P.gl, P.bt, P.ct, fun j y ej => by
        obtain ⟨f', fd', ps', em, K', _⟩ := P.fn j y ej
        obtain ⟨F', st', N', nm', eF', D', Fu', bd', us0, vs0, b0, r0, rd0⟩ := K'.ex
        exact ⟨f', fd', ps', F'.df, us0, vs0, em, Fu'.kp, bd', fnG_all P k j y f' fd' ps' K', b0, r0, rd0, fun xs h hn => by rw [← D'.p]; exact callF_len eF' hn⟩⟩
    have so := okTs_all W F.body (defBody st) _ _ g H g none g H h (startE F.n xs) (L2.start N vs) gx ⟨rfl, rfl⟩ (.inl rfl) D.body (St.start sm D.n r)
    have hps : xs.length = F.ps := by rw [D.p, ← hl, r.length]
    have eC : callF Φ G W (k + 1) i xs h = (evSs (callF Φ G W k) G W F.body (startE F.n xs) h).bind fun o h1 => match o with
        | .rt v => .ok v h1
        | .nx _ => .ok (.d .none) h1
        | _ => .no := by
      rw [callF, eF]
      dsimp only
      rw [if_pos hps]
      all_goals rfl
    rw [eC] at q
    have D0 : Ends := { nx := fun _ H' => Q .non H', rt := Q }
    have main : wSs (cxOf (L2.CX pg.P pg.w) pg.P pg.w pg.K pg.mg pg.base N nm (defScope st) f cdv A outer s H E) (defBody st) { nx := fun _ H' => Q .non H', rt := Q } (L2.start N vs) H := by
      cases hr2 : evSs (callF Φ G W k) G W F.body (startE F.n xs) h with
      | no => rw [hr2] at q; exact (show False from q).elim
      | ex e h' =>
        rw [hr2] at q so
        exact so (fun cls d _ H' => E cls d H') (takes_of rfl rfl rfl rfl) (fun cls dx σ' H' g' s' p' er => q cls dx H' g' s' p'.pz.pre er) _
      | ok o h' =>
        rw [hr2] at q so
        cases o with
        | rt v => exact so _ fun v' H' g' s' p' rv' => q v' H' g' s' p'.pre rv'
        | nx e => exact so _ fun σ' H' g' st' => q .non H' g' st'.sim st'.pre (by simp only [VlR, Rp])
        | bk e => exact (show False from q).elim
        | ct e => exact (show False from q).elim
    refine wpAny_mono (main [] s1 I) (fun fl s' hs => ?_) fun e s' hs => hs
    cases fl with
    | ret u =>
      obtain ⟨v, σ', H', J, rv', q'⟩ := hs
      exact ⟨v, H', J.os, J.bare, J.base, J.hok, rv', q'⟩
    | next =>
      obtain ⟨σ', H', J, q'⟩ := hs
      exact ⟨.non, H', J.os, J.bare, J.base, J.hok, rfl, q'⟩
    | brk => exact (hs.choose_spec.choose_spec.2 : False).elim
    | cont => exact (hs.choose_spec.choose_spec.2 : False).elim
end
end Mi
/-! Mi: the law's call. -/
namespace Mi
open PySem PySem.Spec PyProof.Rows L2

/-- the heap in which the script alone is told, or nothing -/
def scrH (a : Addr) (u : Option HO) : Hp := fun b => if b = a then u else none
theorem scrH_at {a : Addr} {u : Option HO} : scrH a u a = u := if_pos rfl
theorem scrH_ne {a b : Addr} {u : Option HO} (h : b ≠ a) : scrH a u b = none := if_neg h
theorem nomem {b : Addr} (m : b ∈ ([] : List Addr)) : False := by cases m
theorem law_go {pg : Pg} {mb : Str → Option Value} {k : Nat} {fa a : Addr} {fd : FuncData} {x : Str} {F : List Vl → Sh → R Vl} {s₁ : Shared} {vs : List Value} {ns : List Int} {u : Option HO} {hq : Sh}
    (KX : pg.K.In s₁.heap) (hns : s₁.heap.Ns mainGlobals pg.mg) (hb : s₁.heap.Ns builtinsNs mb) (hbb : ∀ x : Str, x ≠ "__name__" → mb x = bootBuiltins x) (hlim : s₁.heap.NoLimit) (hg : s₁.gens = #[])
    (ha : s₁.heap.get? a = some { cls := .type "list", data := .seq vs.toArray }) (hr : Room k callerA) (hba : pg.base = hidT s₁.heap (scrH a u)) (hbind : BindsTo s₁ fd ⟨[.ref a], []⟩ [(x, .ref a)])
    (hu : u = none ∨ (u = some (.frz { cls := .type "list", data := .seq vs.toArray } (.lst (ns.map V.int))) ∧ pg.K.lookup a = none)) (hS : SqL pg.K (scrH a u) a (ns.map V.int)) (hok : HOk pg.P pg.w (scrH a u) s₁.heap)
    (P : pg.K.In (hidT s₁.heap (scrH a u)) → FnG pg k fa fd [x] F) (hF : F [.scr ns] [] = .ok (.d (.bool true)) hq) :
    codeAny (model pg.P pg.w) callerA (.call (.ref fa) ⟨[.ref a], []⟩) (fun r s' => r = .ok (.ret (.bool true)) ∧ OldK s₁.heap s'.heap ∧ s'.os = s₁.os ∧ AllBare s'.gens) s₁ := by
  have free : ∀ b, b ≠ a → scrH a u b = none := fun b => scrH_ne
  have isA : ∀ {b : Addr} {z : HO}, scrH a u b = some z → b = a := fun {b z} e => by
    by_cases h : b = a
    · exact h
    · rw [scrH_ne h] at e; cases e
  have ns_free : ∀ {b : Addr} {o : Obj} {es : Array DictEntry} {ep : Nat}, s₁.heap.get? b = some o → o.data = .dict es ep → scrH a u b = none := fun {b o es ep} e d => by
    by_cases h : b = a
    · subst h
      rw [ha] at e; cases e; cases d
    · exact free b h
  have nsK : ∀ {b : Addr} {m : Str → Option Value}, s₁.heap.Ns b m → (hidT s₁.heap (scrH a u)).Ns b m := fun ⟨o, es, ep, e, d, r⟩ => ⟨o, es, ep, hidT_get e (ns_free e d), d, r⟩
  have kIn : pg.K.In (hidT s₁.heap (scrH a u)) := fun b o e => hidT_get (KX b o e) (by
    by_cases h : b = a
    · subst h
      rcases hu with hu | ⟨_, hk⟩
      · rw [scrH_at, hu]
      · rw [hk] at e; cases e
    · exact free b h)
  have e0 : Env0 pg.P pg.w pg.K pg.mg pg.base callerA [] s₁ (scrH a u) := by
    rw [hba]
    exact ⟨rfl, ⟨kIn, nsK hns, ⟨mb, nsK hb, hbb⟩, hlim.elim fun mc q => ⟨mc, nsK q.1, q.2⟩⟩, fun b o e => of_hidT e, Nat.le_of_eq (hidT_size _ _), trivial, fun b m => (nomem m).elim, hok, .of_eq hg⟩
  have sm : Sim pg.K ⟨scrH a u, []⟩ [] (scrH a u) := ⟨fun _ _ e => e, List.nodup_nil, rfl, fun _ m => (nomem m).elim, fun _ _ e => (show False by simp at e).elim⟩
  refine codeAny_mono ((P kIn).run callerA [] s₁ (scrH a u) ⟨[.ref a], []⟩ [.ref a] [.ref a] [.scr ns] [] ⟨scrH a u, []⟩ (fun v H' => v = .bl true ∧ ∀ z, u = some z → H' a = some z) (fun _ _ _ => False) hr rfl e0 hbind (.cons rfl .nil) rfl sm ⟨.ref a, [], rfl, ⟨a, rfl, hS⟩, rfl⟩ ?_) fun r s' hz => ?_
  · rw [hF]
    refine fun v H' g' s' p' r' => ⟨by simpa only [VlR, Rp] using r', fun z e => s'.sub _ _ (p'.z _ _ ?_)⟩
    show scrH a u a = some z
    rw [scrH_at]; exact e
  · cases r with
    | error e => exact (noCX hz).elim
    | ok fl =>
      cases fl with
      | ret w =>
        obtain ⟨v, H', os, bare, un, hok', rv, rfl, hA⟩ := hz
        obtain rfl : w = Value.bool true := rv
        refine ⟨rfl, OldK.of_keep fun b o e => ?_, os, bare⟩
        by_cases h : b = a
        · subst h
          rcases hu with hu | ⟨hu, _⟩
          · exact un.keep b o e (by rw [scrH_at, hu]) (fun m => nomem m) (fun m => nomem m)
          · obtain ⟨q, _⟩ := hok' b _ (hA _ hu)
            rw [ha] at e; cases e
            exact q
        · exact un.keep b o e (free b h) (fun m => nomem m) (fun m => nomem m)
      | next => exact (show False from hz).elim
      | brk => exact (show False from hz).elim
      | cont => exact (show False from hz).elim
/-- the end over k_head: F gives the written part, the function object, the reader's program -/
theorem walk_me {l : PySem.W.OpenLaw} {n k i : Nat} {q : Program} {loose : List Str} {XP : (Str → Option Value) → Heap → Prop} {YP : World → Heap → Prop} {d : DefRec} {x : Str} {fld : Nat → Option Str}
    {tb : Tb} {Φ : Nat → Option Fd} {G : Nat → Option PyData} {W : Nat} {pz : Nat → List Str} (hn : l.most = some n) (hn2 : n ≤ sizeLine) (hdf : d.params.defaults = []) (hr : Room k callerA) (hi : tb.fn i = some d.name)
    (F : ∀ (w : World) (mg : Str → Option Value) (h : Heap), YP w h → h.Ns mainGlobals mg → ∃ (K : PySem.W.Frag) (cl : Nat → Option Addr), K.In h ∧ ∀ base : Heap, K.In base → PrOk ⟨l.prog, w, K, mg, base, cl, fld⟩ tb Φ G pz)
    (hx : pz i = [x])
    (law : ∀ ns : List Int, ns.length ≤ n → ∃ hq, callF Φ G W k i [.scr ns] [] = .ok (.d (.bool true)) hq) : PySem.W.WalkO q loose XP YP l.row.toRowW d [] (fun f vs => PySem.call f vs) := by
  refine Att.attach_call hn hdf fun w s₀ s₁ mg mb fa o pm cd doc a vs ns Gr Y ho hd hcd hmg hobj hints hlen hg => ?_
  obtain ⟨K, cl, KX, hP⟩ := F w mg _ Y Gr.T.g
  obtain ⟨hq, hlaw⟩ := law ns hlen
  have rv := vals_ints hints
  have lenV := hints.length
  have go : ∀ (u : Option HO), (u = none ∨ (u = some (.frz { cls := .type "list", data := .seq vs.toArray } (.lst (ns.map V.int))) ∧ K.lookup a = none)) → SqL K (scrH a u) a (ns.map V.int) → HOk l.prog w (scrH a u) s₁.heap →
      codeAny (model l.prog w) callerA (.call (.ref fa) ⟨[.ref a], []⟩) (fun r s' => r = .ok (.ret (.bool true)) ∧ OldK s₁.heap s'.heap ∧ s'.os = s₁.os ∧ AllBare s'.gens) s₁ := fun u hu hS hok => by
    have kb : K.In (hidT s₁.heap (scrH a u)) := fun b o e => hidT_get (KX b o e) (by
      by_cases h : b = a
      · subst h
        rcases hu with hu | ⟨_, hk⟩
        · rw [scrH_at, hu]
        · rw [hk] at e; cases e
      · exact scrH_ne h)
    have P := hP (hidT s₁.heap (scrH a u)) kb
    obtain ⟨f, fd, ps, em, fk, eps⟩ := P.fn i d.name hi
    have em' : mg d.name = some (.ref f) := em
    rw [hmg] at em'
    cases em'
    rw [hx] at eps
    subst eps
    have bd := fk.ex.choose_spec.choose_spec.choose_spec.choose_spec.2.2.2.1
    exact law_go (pg := ⟨l.prog, w, K, mg, hidT s₁.heap (scrH a u), cl, fld⟩) (mb := mb) (k := k) (x := x) (F := callF Φ G W k i) KX Gr.T.g Gr.T.b Gr.T.builtins Gr.T.nolimit hg hobj hr rfl (by simpa using bd s₁ [.ref a] KX rfl) hu hS hok (fun _ => fnG_all P k i d.name fa fd [x] fk) hlaw
  have sz : ns.length ≤ sizeLine := Nat.le_trans hlen hn2
  cases hk : K.lookup a with
  | some o =>
    have e := KX a o hk
    rw [hobj] at e
    cases e
    refine go none (.inl rfl) (.inr ⟨_, vs.toArray, _, hk, rfl, rfl, rfl, by rw [List.size_toArray, lenV]; exact sz, by simpa using rv⟩) fun b z e => ?_
    unfold scrH at e
    split at e <;> cases e
  | none =>
    refine go _ (.inr ⟨rfl, hk⟩) (.inl (.inr ⟨_, scrH_at⟩)) fun b z e => ?_
    by_cases h : b = a
    · subst h
      rw [scrH_at] at e
      cases e
      exact ⟨hobj, by rw [List.length_map]; exact sz, vs, _, rv, hobj⟩
    · rw [scrH_ne h] at e; cases e
end Mi
/-! Mi: what stands in the written part. -/
namespace Mi
open PySem PySem.Spec PyProof.Rows L2

structure DefE where
  x : Str
  y : Str
  st : Stmt
  F : Fd
  N : List Str
  ps : List Str
def fnT (l : List DefE) (i : Nat) : Option Str := (l[i]?).map (·.x)
def ΦT (l : List DefE) (i : Nat) : Option Fd := (l[i]?).map (·.F)
def pzT (l : List DefE) (i : Nat) : List Str := ((l[i]?).map (·.ps)).getD []
def glT (l : List (Str × PyData)) (i : Nat) : Option Str := (l[i]?).map (·.1)
def GT (l : List (Str × PyData)) (i : Nat) : Option PyData := (l[i]?).map (·.2)
theorem allN {p : DefE → Prop} : ∀ D ∈ ([] : List DefE), p D := fun _ m => (List.not_mem_nil m).elim
theorem allC {p : DefE → Prop} {a : DefE} {l : List DefE} (h : p a) (r : ∀ D ∈ l, p D) : ∀ D ∈ a :: l, p D := fun D m => (List.mem_cons.mp m).elim (fun e => e ▸ h) (r D)
/-- a def's own text -/
structure DefC (tb : Tb) (D : DefE) : Prop where
  ok : DefOk tb D.st D.F D.N D.ps
/-- how its arguments bind -/
def BdN (D : DefE) : Prop := ∀ (kV doc pm : Value) (an : Option Addr) (cdv ct : Value) (us : List Value), us.length = D.ps.length → bindArgs (PySem.W.fnOf D.y D.y (defArgs D.st) (defBody D.st) (defScope D.st) .none kV doc pm an cdv ct) ⟨us, []⟩ = pure (D.ps.zip us)
/-- .. where defaults stand: all written, or none of them -/
structure BdD (D : DefE) : Prop where
  all : ∀ (T : Addr) (kV doc pm : Value) (an : Option Addr) (cdv ct : Value) (us its : List Value), us.length = D.ps.length → its.length = D.F.df.length →
    ∃ k, bindArgs (PySem.W.fnOf D.y D.y (defArgs D.st) (defBody D.st) (defScope D.st) (.ref T) kV doc pm an cdv ct) ⟨us, []⟩ = seqItems? (.ref T) >>= k ∧ k (some its.toArray) = pure (D.ps.zip us)
  few : ∀ (T : Addr) (kV doc pm : Value) (an : Option Addr) (cdv ct : Value) (us its : List Value), us.length + D.F.df.length = D.ps.length → its.length = D.F.df.length →
    ∃ k, bindArgs (PySem.W.fnOf D.y D.y (defArgs D.st) (defBody D.st) (defScope D.st) (.ref T) kV doc pm an cdv ct) ⟨us, []⟩ = seqItems? (.ref T) >>= k ∧ k (some its.toArray) = pure (D.ps.zip (us ++ its))
structure DK (K : PySem.W.Frag) (D : DefE) : Prop where
  ex : ∃ (f : Addr) (fd : FuncData), PySem.W.nsIn K mainGlobals D.x = some (some (.ref f)) ∧ FnD K D.y D.st f fd ∧ Binds K fd D.ps [] ∧ ∃ us0 vs0, Binds K fd D.ps us0 ∧ Vals vs0 us0 ∧ RpL K (fun _ => none) D.F.df vs0
theorem DK.of {K : PySem.W.Frag} {D : DefE} {f : Addr} {oc kV doc pm cdv ct : Value} {od an : Option Addr} {osl : Array (Option Value)} (hdf : D.F.df = []) (bd : BdN D) (a : PySem.W.nsIn K mainGlobals D.x = some (some (.ref f)))
    (l : K.lookup f = some ⟨oc, od, .func (PySem.W.fnOf D.y D.y (defArgs D.st) (defBody D.st) (defScope D.st) .none kV doc pm an cdv ct), osl⟩) (c : PySem.W.codeIn K cdv D.y = true) (k : PySem.W.keepIn K (.ref f) = true) : DK K D :=
  have b : Binds K (PySem.W.fnOf D.y D.y (defArgs D.st) (defBody D.st) (defScope D.st) .none kV doc pm an cdv ct) D.ps [] := .all (bd kV doc pm an cdv ct)
  ⟨f, _, a, ⟨⟨oc, od, .none, kV, doc, pm, an, cdv, ct, osl, rfl, l, c⟩, k⟩, b, [], [], b, .nil, by rw [hdf]; exact RpL.nil⟩
mutual
def relB (K : PySem.W.Frag) : PyData → Value → Bool
  | .none, .none => true
  | .bool a, .bool b => a == b
  | .int a, .int b _ => a == b
  | .str a, .str b _ => a == b
  | .tuple xs, .ref a => (match K.lookup a with
    | some ⟨.type t, _, .seq its _, _⟩ => decide (t = "tuple") && decide (its.size ≤ 1000) && relBs K xs its.toList
    | _ => false)
  | _, _ => false
def relBs (K : PySem.W.Frag) : List PyData → List Value → Bool
  | [], [] => true
  | x :: xs, v :: vs => relB K x v && relBs K xs vs
  | _, _ => false
end
mutual
theorem relB_ok {K : PySem.W.Frag} : ∀ (d : PyData) (u : Value), relB K d u = true → ∃ v, RelV v u ∧ Rp K (fun _ => none) d v
  | .none, u, h => by
    cases u <;> simp only [relB] at h <;> first | exact ⟨.non, rfl, by simp only [Rp]⟩ | cases h
  | .bool b, u, h => by
    cases u <;> simp only [relB] at h <;> first | (cases eq_of_beq h; exact ⟨.bl b, rfl, by simp only [Rp]⟩) | cases h
  | .int i, u, h => by
    cases u <;> simp only [relB] at h <;> first | (cases eq_of_beq h; exact ⟨.int i, ⟨_, rfl⟩, by simp only [Rp]⟩) | cases h
  | .str x, u, h => by
    cases u <;> simp only [relB] at h <;> first | (cases eq_of_beq h; exact ⟨.str x, ⟨_, rfl⟩, by simp only [Rp]⟩) | cases h
  | .list xs, u, h => by cases u <;> simp only [relB] at h <;> cases h
  | .dict xs, u, h => by cases u <;> simp only [relB] at h <;> cases h
  | .tuple xs, u, h => by
    cases u <;> simp only [relB] at h <;> try cases h
    rename_i a
    split at h
    · rename_i t _ its nn _ hk
      simp only [Bool.and_eq_true] at h
      obtain ⟨⟨h1, h2⟩, h3⟩ := h
      obtain ⟨vs, r1, r2⟩ := relBs_ok xs its.toList h3
      refine ⟨.ref a, rfl, ?_⟩
      simp only [Rp]
      exact ⟨a, vs, rfl, .inr ⟨_, its, nn, hk, by rw [of_decide_eq_true h1], rfl, Nat.le_of_lt (small1000 (of_decide_eq_true h2)), r1⟩, r2⟩
    · cases h
theorem relBs_ok {K : PySem.W.Frag} : ∀ (ds : List PyData) (us : List Value), relBs K ds us = true → ∃ vs, Vals vs us ∧ RpL K (fun _ => none) ds vs
  | [], us, h => by
    cases us with
    | nil => exact ⟨[], .nil, RpL.nil⟩
    | cons _ _ => simp [relBs] at h
  | x :: xs, us, h => by
    cases us with
    | nil => simp [relBs] at h
    | cons u us =>
      simp only [relBs, Bool.and_eq_true] at h
      obtain ⟨v, r1, r2⟩ := relB_ok x u h.1
      obtain ⟨vs, r3, r4⟩ := relBs_ok xs us h.2
      exact ⟨v :: vs, .cons r1 r3, RpL.cons r2 r4⟩
end
theorem DK.ofD {K : PySem.W.Frag} {D : DefE} {f T : Addr} {o : Obj} {its : List Value} {m : Nat} {oc kV doc pm cdv ct : Value} {od an : Option Addr} {osl : Array (Option Value)} (bd : BdD D) (a : PySem.W.nsIn K mainGlobals D.x = some (some (.ref f)))
    (l : K.lookup f = some ⟨oc, od, .func (PySem.W.fnOf D.y D.y (defArgs D.st) (defBody D.st) (defScope D.st) (.ref T) kV doc pm an cdv ct), osl⟩) (c : PySem.W.codeIn K cdv D.y = true) (k : PySem.W.keepIn K (.ref f) = true)
    (lT : K.lookup T = some o) (oT : o.data = .seq its.toArray m) (rl : relBs K D.F.df its = true) : DK K D := by
  obtain ⟨vs0, r1, r2⟩ := relBs_ok _ _ rl
  have hi : its.length = D.F.df.length := by rw [← r1.length, r2.length]
  refine ⟨f, _, a, ⟨⟨oc, od, .ref T, kV, doc, pm, an, cdv, ct, osl, rfl, l, c⟩, k⟩, fun s us X hl => ?_, its, vs0, fun s us X hl => ?_, r1, r2⟩
  · rw [List.append_nil] at hl ⊢
    obtain ⟨q, e1, e2⟩ := bd.all T kV doc pm an cdv ct us its hl hi
    refine BindsTo.of_looks fun M => ?_
    rw [e1]
    exact looks_items X lT oT (.of_pure e2)
  · obtain ⟨q, e1, e2⟩ := bd.few T kV doc pm an cdv ct us its (by rw [← hi, ← List.length_append]; exact hl) hi
    refine BindsTo.of_looks fun M => ?_
    rw [e1]
    exact looks_items X lT oT (.of_pure e2)
def gB (K : PySem.W.Frag) (p : Str × PyData) : Bool := match PySem.W.nsIn K mainGlobals p.1 with
  | some (some v) => relB K p.2 v
  | _ => false
def zB (K : PySem.W.Frag) (x : Str) : Bool := match PySem.W.nsIn K mainGlobals x with
  | some none => true
  | _ => false
theorem prOk {P : Program} {w : World} {K : PySem.W.Frag} {mg : Str → Option Value} {base h : Heap} {cl : Nat → Option Addr} {fld : Nat → Option Str} {ds : List DefE} {gs : List (Str × PyData)} {tb : Tb} (X : K.In h) (N : h.Ns mainGlobals mg) (hfn : tb.fn = fnT ds) (hgl : tb.gl = glT gs) (ct : ClsT ⟨P, w, K, mg, base, cl, fld⟩ tb)
    (hd : ∀ D ∈ ds, DefC tb D) (hk : ∀ D ∈ ds, DK K D) (hg : gs.all (gB K) = true) (hz : bNames.all (zB K) = true) : PrOk ⟨P, w, K, mg, base, cl, fld⟩ tb (ΦT ds) (GT gs) (pzT ds) := by
  refine ⟨fun i x e => ?_, fun i x e d eg => ?_, fun x hx => ?_, ct⟩
  · rw [hfn] at e
    have e : (ds[i]?).map (·.x) = some x := e
    cases q : ds[i]? with
    | none => rw [q] at e; cases e
    | some D =>
      rw [q] at e; cases e
      have m := List.mem_of_getElem? q
      obtain ⟨f, fd, a, Fu, b, us0, vs0, b0, r1, r2⟩ := (hk D m).ex
      have C := hd D m
      exact ⟨f, fd, D.ps, PySem.W.mg_of X N a, ⟨D.F, D.st, D.N, D.y, by rw [ΦT, q]; rfl, C.ok, Fu, b, us0, vs0, b0, r1, r2⟩, by rw [pzT, q]; rfl⟩
  · rw [hgl] at e
    have e : (gs[i]?).map (·.1) = some x := e
    have eg : (gs[i]?).map (·.2) = some d := eg
    cases q : gs[i]? with
    | none => rw [q] at e; cases e
    | some p =>
      rw [q] at e eg; cases e; cases eg
      have := List.all_eq_true.mp hg p (List.mem_of_getElem? q)
      unfold gB at this
      split at this
      · rename_i v ev
        obtain ⟨v', r1, r2⟩ := relB_ok _ _ this
        exact ⟨v, v', PySem.W.mg_of X N ev, r1, r2⟩
      · cases this
  · have := List.all_eq_true.mp hz x hx
    unfold zB at this
    split at this
    · rename_i ev
      exact PySem.W.mg_none_of X N ev
    · cases this

/-! ### classes -/
def clA (K : PySem.W.Frag) (cs : List Str) (i : Nat) : Option Addr := match cs[i]? with
  | some x => (match PySem.W.nsIn K mainGlobals x with
    | some (some (.ref C)) => some C
    | _ => none)
  | none => none
def bmVE : List Value := [.type "ValueError", .type "Exception", .type "BaseException", .type "object"]
def okC (K : PySem.W.Frag) (C : Addr) : Bool :=
  PySem.W.keepIn K (.ref C) && PySem.W.excIn K C bmVE "ValueError.__new__" && (PySem.W.subIn K (.ref C) (.type "BaseException") == some true) && (PySem.W.typeIn K (.ref C) == some (.type "type")) &&
  (PySem.W.findIn K (.ref C) "__getattribute__" == some (some (.builtin "BaseException.__getattribute__"))) && (PySem.W.findIn K (.ref C) "__getattr__" == some none) && PySem.W.hasDictIn K C && (PySem.W.findIn K (.ref C) "__class__" == some (some (.builtin "object.__class__"))) &&
  (PySem.W.specialIn K (.builtin "object.__class__") "__get__" == some (some (.builtin "getset_descriptor.__get__"))) && (PySem.W.takesIn K (.builtin "object.__class__") == some true) && (PySem.W.mroIn K C (.type "object") == some true)
def okC2 (K : PySem.W.Frag) (C D : Addr) (b : Bool) : Bool := (PySem.W.exmOne K (.ref C) (.ref D) == some b) && (PySem.W.kitOne K (.ref C) (.ref D) == some b)
/-- the sub-table's rows: which classes stand below class i -/
def subT (l : List (List Nat)) (i j : Nat) : Bool := ((l[i]?).getD []).contains j
def okCs' (K : PySem.W.Frag) (cs : List Str) (l : List (List Nat)) : Bool :=
  (List.range cs.length).all fun i => match clA K cs i with
    | some C => okC K C && (List.range cs.length).all fun j => match clA K cs j with
      | some D => okC2 K C D (subT l i j)
      | none => false
    | none => false
theorem beqO {a b : Option Bool} (h : (a == b) = true) : a = b := eq_of_beq h
theorem okC_ok {K : PySem.W.Frag} {C : Addr} (h : okC K C = true) : ClsK K C := by
  unfold okC at h
  simp only [Bool.and_eq_true] at h
  obtain ⟨⟨⟨⟨⟨⟨⟨⟨⟨⟨h1, h2⟩, h3⟩, h4⟩, h5⟩, h6⟩, h7⟩, h8⟩, h9⟩, h10⟩, h11⟩ := h
  exact ⟨h1, h2, eq_of_beq h3, eq_of_beq h4, ⟨eq_of_beq h5, eq_of_beq h6, eq_of_beq h3, h7, eq_of_beq h8, eq_of_beq h9, eq_of_beq h10, eq_of_beq h11⟩⟩
theorem clsT {P : Program} {w : World} {K : PySem.W.Frag} {mg : Str → Option Value} {base h : Heap} {fld : Nat → Option Str} {cs : List Str} {l : List (List Nat)} {tb : Tb} (X : K.In h) (N : h.Ns mainGlobals mg) (h1 : tb.cs = fun i => cs[i]?) (h2 : tb.sub = subT l) (h3 : tb.nc = cs.length)
    (ok : okCs' K cs l = true) : ClsT ⟨P, w, K, mg, base, clA K cs, fld⟩ tb := by
  have one : ∀ i C, clA K cs i = some C → i < cs.length ∧ ClsK K C ∧ ∀ j D, clA K cs j = some D → okC2 K C D (subT l i j) = true := fun i C e => by
    have hi : i < cs.length := by
      unfold clA at e
      cases q : cs[i]? with
      | none => rw [q] at e; cases e
      | some x => exact (List.getElem?_eq_some_iff.mp q).1
    have a := List.all_eq_true.mp ok i (List.mem_range.mpr hi)
    rw [e] at a
    simp only [Bool.and_eq_true] at a
    refine ⟨hi, okC_ok a.1, fun j D ej => ?_⟩
    have hj : j < cs.length := by
      unfold clA at ej
      cases q : cs[j]? with
      | none => rw [q] at ej; cases ej
      | some x => exact (List.getElem?_eq_some_iff.mp q).1
    have b := List.all_eq_true.mp a.2 j (List.mem_range.mpr hj)
    rw [ej] at b
    exact b
  refine ⟨fun i x e => ?_, fun i j C D e1 e2 => ?_, fun i C e => ?_⟩
  · rw [h1] at e
    have e : cs[i]? = some x := e
    have hi := (List.getElem?_eq_some_iff.mp e).1
    have a := List.all_eq_true.mp ok i (List.mem_range.mpr hi)
    cases q : clA K cs i with
    | none => rw [q] at a; cases a
    | some C =>
      refine ⟨C, q, ?_, (one i C q).2.1⟩
      unfold clA at q
      rw [e] at q
      dsimp only at q
      split at q
      · rename_i C' en
        cases q
        exact PySem.W.mg_of X N en
      · cases q
  · have b := (one i C e1).2.2 j D e2
    unfold okC2 at b
    rw [Bool.and_eq_true] at b
    rw [h2]
    exact ⟨eq_of_beq b.1, eq_of_beq b.2⟩
  · obtain ⟨a, b, _⟩ := one i C e
    exact ⟨by rw [h3]; exact a, b.xc⟩
end Mi
/-! Mi: running the reader by hand. -/
namespace Mi
open PySem
def fin (r : R Out) : R Vl := r.bind fun o h1 => match o with
  | .rt v => .ok v h1
  | .nx _ => .ok (.d .none) h1
  | _ => .no
section
variable {Φ : Nat → Option Fd} {G : Nat → Option PyData} {W k i : Nat} {xs : List Vl} {h : Sh} {F : Fd} {C : Cf} {env : En} {α β : Type}
theorem call_at (e : Φ i = some F) (l : xs.length = F.ps) : callF Φ G W (k + 1) i xs h = fin (evSs (callF Φ G W k) G W F.body (startE F.n xs) h) := by
  rw [callF, e]
  dsimp only
  rw [if_pos l]
  rfl
theorem b_ok {a : α} {f : α → Sh → R β} : (R.ok a h).bind f = f a h := rfl
theorem b_ex {x : Er} {f : α → Sh → R β} : (R.ex x h : R α).bind f = .ex x h := rfl
theorem b_no {f : α → Sh → R β} : (R.no : R α).bind f = .no := rfl
theorem t_ok {x : Vl} : tru (.ok x h) = match truV x with
  | some b => .ok b h
  | none => .no := rfl
theorem t_bl {b : Bool} : tru (.ok (.d (.bool b)) h) = .ok b h := rfl
theorem l_some {x : PyData} : lift (some x) h = .ok (.d x) h := rfl
theorem fin_rt {v : Vl} : fin (.ok (.rt v) h) = .ok v h := rfl
theorem fin_nx {e : En} : fin (.ok (.nx e) h) = .ok (.d .none) h := rfl
theorem fin_ex {e : Er} : fin (.ex e h) = .ex e h := rfl
/-- an if, by its test -/
theorem s_if {t : Te} {a b r : List Ts} {v : Bool} {h1 : Sh} (e : tru (evE C G t env h) = .ok v h1) : evSs C G W (.iff t a b :: r) env h = (if v then evSs C G W a env h1 else evSs C G W b env h1).bind fun o h2 => match o with
    | .nx e => evSs C G W r e h2
    | o => .ok o h2 := by
  rw [evSs, evS, e]
  rfl
theorem s_ifT {t : Te} {a b r : List Ts} {h1 : Sh} {v : Vl} {h2 : Sh} (e : tru (evE C G t env h) = .ok true h1) (q : evSs C G W a env h1 = .ok (.rt v) h2) : evSs C G W (.iff t a b :: r) env h = .ok (.rt v) h2 := by
  rw [s_if e, if_pos rfl, q]; rfl
theorem s_ifX {t : Te} {a b r : List Ts} {h1 : Sh} {x : Er} {h2 : Sh} (e : tru (evE C G t env h) = .ok true h1) (q : evSs C G W a env h1 = .ex x h2) : evSs C G W (.iff t a b :: r) env h = .ex x h2 := by
  rw [s_if e, if_pos rfl, q]; rfl
theorem s_ifF {t : Te} {a r : List Ts} {h1 : Sh} (e : tru (evE C G t env h) = .ok false h1) : evSs C G W (.iff t a [] :: r) env h = evSs C G W r env h1 := by
  rw [s_if e, if_neg Bool.false_ne_true]; rfl
theorem s_ifN {t : Te} {a b r : List Ts} {h1 h2 : Sh} {env' : En} (e : tru (evE C G t env h) = .ok true h1) (q : evSs C G W a env h1 = .ok (.nx env') h2) : evSs C G W (.iff t a b :: r) env h = evSs C G W r env' h2 := by
  rw [s_if e, if_pos rfl, q]; rfl
theorem s_ifE {t : Te} {a b r : List Ts} {h1 h2 : Sh} {env' : En} (e : tru (evE C G t env h) = .ok false h1) (q : evSs C G W b env h1 = .ok (.nx env') h2) : evSs C G W (.iff t a b :: r) env h = evSs C G W r env' h2 := by
  rw [s_if e, if_neg Bool.false_ne_true, q]; rfl
theorem s_ret {e : Te} {r : List Ts} {v : Vl} {h1 : Sh} (q : evE C G e env h = .ok v h1) : evSs C G W (.ret e :: r) env h = .ok (.rt v) h1 := by
  rw [evSs, evS, q]; rfl
theorem s_retX {e : Te} {r : List Ts} {x : Er} {h1 : Sh} (q : evE C G e env h = .ex x h1) : evSs C G W (.ret e :: r) env h = .ex x h1 := by
  rw [evSs, evS, q]; rfl
theorem s_asg {tg : Tg} {e : Te} {r : List Ts} {v : Vl} {h1 : Sh} {env' : En} (q : evE C G e env h = .ok v h1) (b : bindTg tg v env = some env') : evSs C G W (.asg tg e :: r) env h = evSs C G W r env' h1 := by
  rw [evSs, evS, q]
  simp only [b_ok, b]
theorem s_own {j : Nat} {l : Tl} {r : List Ts} {v : List PyData} {h1 : Sh} (q : evL C G l env h = .ok v h1) : evSs C G W (.own j l :: r) env h = evSs C G W r (env.set j (.own v)) h1 := by
  rw [evSs, evS, q]; rfl
theorem s_par {is : List Nat} {es : List Tm} {r : List Ts} {v : List Sl} {h1 : Sh} {env' : En} (q : evXs C G es env h = .ok v h1) (b : bindAll is v env = some env') : evSs C G W (.par is es :: r) env h = evSs C G W r env' h1 := by
  rw [evSs, evS, q]
  simp only [b_ok, b]
theorem s_step {s : Ts} {r : List Ts} {h1 : Sh} {env' : En} (q : evS C G W s env h = .ok (.nx env') h1) : evSs C G W (s :: r) env h = evSs C G W r env' h1 := by
  rw [evSs, q]; rfl
theorem s_end {s : Ts} {r : List Ts} {h1 : Sh} {v : Vl} (q : evS C G W s env h = .ok (.rt v) h1) : evSs C G W (s :: r) env h = .ok (.rt v) h1 := by
  rw [evSs, q]; rfl
theorem e_call {f : Nat} {es : List Te} {xs : List Vl} {h1 : Sh} (q : evEs C G es env h = .ok xs h1) : evE C G (.call f es) env h = C f xs h1 := by
  rw [evE, q]; rfl
theorem es_nil : evEs C G [] env h = .ok [] h := by rw [evEs]
theorem es_cons {e : Te} {r : List Te} {x : Vl} {xs : List Vl} {h1 h2 : Sh} (q : evE C G e env h = .ok x h1) (q2 : evEs C G r env h1 = .ok xs h2) : evEs C G (e :: r) env h = .ok (x :: xs) h2 := by
  rw [evEs, q]
  simp only [b_ok, q2]
theorem e_tup {es : List Te} {xs : List Vl} {dd : List PyData} {h1 : Sh} (q : evEs C G es env h = .ok xs h1) (q2 : datL xs = some dd) (l : dd.length ≤ SZ) : evE C G (.tup es) env h = .ok (.d (.tuple dd)) h1 := by
  rw [evE, q]
  simp only [b_ok, q2]
  exact if_pos l
theorem e_disp {es : List Te} {xs : List Vl} {dd : List PyData} {h1 : Sh} (q : evEs C G es env h = .ok xs h1) (q2 : datL xs = some dd) (l : dd.length ≤ SZ) : evE C G (.ofL (.disp es)) env h = .ok (.d (.list dd)) h1 := by
  rw [evE, evL, q]
  simp only [b_ok, q2]
  rw [if_pos l]
  rfl
theorem e_bi {b : BI} {es : List Te} {xs : List Vl} {dd : List PyData} {z : PyData} {h1 : Sh} (q : evEs C G es env h = .ok xs h1) (q2 : datL xs = some dd) (e : biD b dd = some z) : evE C G (.bi b es) env h = .ok (.d z) h1 := by
  rw [evE, q]
  simp only [b_ok, q2, e, l_some]
theorem e_and1 {a : Te} : evE C G (.and [a]) env h = evE C G a env h := by rw [evE, evAnd]
theorem e_or1 {a : Te} : evE C G (.or [a]) env h = evE C G a env h := by rw [evE, evOr]
theorem e_andB {a b : Te} {r : List Te} {v w : Bool} (q : evE C G a env h = .ok (.d (.bool v)) h) (q2 : v = true → evE C G (.and (b :: r)) env h = .ok (.d (.bool w)) h) : evE C G (.and (a :: b :: r)) env h = .ok (.d (.bool (v && w))) h := by
  rw [evE, evAnd_cons2, q]
  cases v with
  | false => rfl
  | true =>
    have := q2 rfl
    rw [evE] at this
    exact this
theorem e_not {e : Te} {v : Bool} {h1 : Sh} (q : tru (evE C G e env h) = .ok v h1) : evE C G (.not e) env h = .ok (.d (.bool (!v))) h1 := by
  rw [evE]
  cases r : evE C G e env h with
  | no => rw [r] at q; cases q
  | ex _ _ => rw [r] at q; cases q
  | ok x h2 =>
    rw [r, t_ok] at q
    cases tv : truV x with
    | none => rw [tv] at q; cases q
    | some b => rw [tv] at q; cases q; simp only [b_ok, tv]
/-- a list made by a comprehension -/
theorem e_comp {elt : Te} {tg : Tg} {kk : It} {es : List Te} {xs : List Vl} {ds ys : List PyData} {h1 h2 : Sh} (q : evEs C G es env h = .ok xs h1) (i : evIt kk xs = some (ds.map .d)) (l : ds.length ≤ SZ) (c : compLoop tg (evC C G []) (evE C G elt) (wipeE tg.names env) (ds.map .d) h1 = .ok ys h2) :
    evE C G (.ofL (.comp elt tg kk es [])) env h = .ok (.d (.list ys)) h2 := by
  rw [evE, evL, q]
  simp only [b_ok, i]
  rw [if_pos (by rw [List.length_map]; exact l), c]
  rfl
theorem l_comp {elt : Te} {tg : Tg} {kk : It} {es : List Te} {xs : List Vl} {ds ys : List PyData} {h1 h2 : Sh} (q : evEs C G es env h = .ok xs h1) (i : evIt kk xs = some (ds.map .d)) (l : ds.length ≤ SZ) (c : compLoop tg (evC C G []) (evE C G elt) (wipeE tg.names env) (ds.map .d) h1 = .ok ys h2) :
    evL C G (.comp elt tg kk es []) env h = .ok ys h2 := by
  rw [evL, q]
  simp only [b_ok, i]
  rw [if_pos (by rw [List.length_map]; exact l)]
  exact c
theorem fin_end {r : R Out} {v : Vl} (q : r = .ok (.rt v) h) : fin r = .ok v h := by rw [q]; rfl
theorem fl_cons {body : En → Sh → R Out} {tg : Tg} {x : Vl} {xs : List Vl} {env' : En} (e : bindTg tg x env = some env') : forLoop body tg (x :: xs) env h = (body env' h).bind fun o h1 => match o with
      | .nx e => forLoop body tg xs e h1
      | .ct e => forLoop body tg xs e h1
      | .bk e => .ok (.nx e) h1
      | .rt v => .ok (.rt v) h1 := by
  rw [forLoop, e]
  all_goals rfl
theorem s_for {tg : Tg} {kk : It} {es : List Te} {body r : List Ts} {xs items : List Vl} {h1 h2 : Sh} {env' : En} (q : evEs C G es env h = .ok xs h1) (i : evIt kk xs = some items) (f : forLoop (evSs C G W body) tg items env h1 = .ok (.nx env') h2) :
    evSs C G W (.for tg kk es body :: r) env h = evSs C G W r env' h2 := by
  rw [evSs, evS, q]
  simp only [b_ok, i, f]
theorem s_forR {tg : Tg} {kk : It} {es : List Te} {body r : List Ts} {xs items : List Vl} {h1 h2 : Sh} {v : Vl} (q : evEs C G es env h = .ok xs h1) (i : evIt kk xs = some items) (f : forLoop (evSs C G W body) tg items env h1 = .ok (.rt v) h2) :
    evSs C G W (.for tg kk es body :: r) env h = .ok (.rt v) h2 := by
  rw [evSs, evS, q]
  simp only [b_ok, i, f]
theorem s_while {t : Te} {body r : List Ts} {h2 : Sh} {env' : En} (f : whLoop (fun e g => tru (evE C G t e g)) (evSs C G W body) W env h = .ok (.nx env') h2) : evSs C G W (.while t body :: r) env h = evSs C G W r env' h2 := by
  rw [evSs, evS, f]
  rfl
theorem s_expr {e : Te} {r : List Ts} {v : Vl} {h1 : Sh} (q : evE C G e env h = .ok v h1) : evSs C G W (.expr e :: r) env h = evSs C G W r env h1 := by
  rw [evSs, evS, q]; rfl
theorem s_exprX {e : Te} {r : List Ts} {x : Er} {h1 : Sh} (q : evE C G e env h = .ex x h1) : evSs C G W (.expr e :: r) env h = .ex x h1 := by
  rw [evSs, evS, q]; rfl
/-- a comprehension without a condition, one value an item, no heap -/
theorem comp_map {tg : Tg} {elt : En → Sh → R Vl} {f : PyData → PyData} : ∀ (xs : List PyData) {h : Sh}, (∀ x ∈ xs, ∃ env', bindTg tg (.d x) env = some env' ∧ elt env' h = .ok (.d (f x)) h) →
    compLoop tg (evC C G []) elt env (xs.map .d) h = .ok (xs.map f) h
  | [], h, _ => rfl
  | x :: xs, h, q => by
    obtain ⟨env', e1, e2⟩ := q x List.mem_cons_self
    have ih := comp_map xs fun y m => q y (List.mem_cons_of_mem _ m)
    have e0 : evC C G [] env' h = .ok true h := by rw [evC]
    rw [List.map_cons, compLoop, e1]
    simp only [e0, noEx, b_ok, if_true, e2, ih, List.map_cons]
/-- .. by pairs -/
theorem comp_zip {tg : Tg} {elt : En → Sh → R Vl} : ∀ (zs : List (PyData × PyData)) {h : Sh}, (∀ z ∈ zs, ∃ env', bindTg tg (.d z.1) env = some env' ∧ elt env' h = .ok (.d z.2) h) →
    compLoop tg (evC C G []) elt env ((zs.map (·.1)).map .d) h = .ok (zs.map (·.2)) h
  | [], h, _ => rfl
  | z :: zs, h, q => by
    obtain ⟨env', e1, e2⟩ := q z List.mem_cons_self
    have ih := comp_zip zs fun y m => q y (List.mem_cons_of_mem _ m)
    have e0 : evC C G [] env' h = .ok true h := by rw [evC]
    rw [List.map_cons, List.map_cons, compLoop, e1]
    simp only [e0, noEx, b_ok, if_true, e2, ih, List.map_cons]
theorem t_cmp {op : CmpOp} {a b : Te} {x y : PyData} {v : Bool} {h1 h2 : Sh} (e1 : evE C G a env h = .ok (.d x) h1) (e2 : evE C G b env h1 = .ok (.d y) h2) (e : cmpD op x y = some v) : tru (evE C G (.cmp op a b) env h) = .ok v h2 := by
  rw [evE, e1]
  simp only [b_ok, e2, e, Option.map, l_some, t_bl]
theorem e_cmp {op : CmpOp} {a b : Te} {x y : PyData} {v : Bool} {h1 h2 : Sh} (e1 : evE C G a env h = .ok (.d x) h1) (e2 : evE C G b env h1 = .ok (.d y) h2) (e : cmpD op x y = some v) : evE C G (.cmp op a b) env h = .ok (.d (.bool v)) h2 := by
  rw [evE, e1]
  simp only [b_ok, e2, e, Option.map, l_some]
theorem e_bin {op : Operator} {a b : Te} {x y z : PyData} {h1 h2 : Sh} (e1 : evE C G a env h = .ok (.d x) h1) (e2 : evE C G b env h1 = .ok (.d y) h2) (e : binD op x y = some z) : evE C G (.bin op a b) env h = .ok (.d z) h2 := by
  rw [evE, e1]
  simp only [b_ok, e2, e, l_some]
theorem t_chain {o1 o2 : CmpOp} {a b d : Te} {x y z : PyData} {v w : Bool} (e1 : evE C G a env h = .ok (.d x) h) (e2 : evE C G b env h = .ok (.d y) h) (e3 : evE C G d env h = .ok (.d z) h) (c1 : cmpD o1 x y = some v) (c2 : cmpD o2 y z = some w) :
    tru (evE C G (.chain o1 o2 a b d) env h) = .ok (v && w) h := by
  rw [evE, e1]
  simp only [b_ok, e2, c1]
  cases v with
  | true => simp only [e3, b_ok, c2, Option.map, l_some, t_bl, Bool.true_and]
  | false => rfl
theorem t_b {e : Te} {v : Bool} {h1 : Sh} (q : evE C G e env h = .ok (.d (.bool v)) h1) : tru (evE C G e env h) = .ok v h1 := by rw [q]; rfl
theorem t_not {e : Te} {v : Bool} {h1 : Sh} (q : tru (evE C G e env h) = .ok v h1) : tru (evE C G (.not e) env h) = .ok (!v) h1 := by
  rw [evE]
  cases r : evE C G e env h with
  | no => rw [r] at q; cases q
  | ex _ _ => rw [r] at q; cases q
  | ok x h2 =>
    rw [r, t_ok] at q
    cases tv : truV x with
    | none => rw [tv] at q; cases q
    | some b => rw [tv] at q; cases q; simp only [b_ok, tv]; rfl
theorem t_nT {e : Te} {h1 : Sh} (q : tru (evE C G e env h) = .ok false h1) : tru (evE C G (.not e) env h) = .ok true h1 := t_not q
theorem t_nF {e : Te} {h1 : Sh} (q : tru (evE C G e env h) = .ok true h1) : tru (evE C G (.not e) env h) = .ok false h1 := t_not q
theorem e_ix {a i : Te} {x z : PyData} {j : Int} {h1 h2 : Sh} (e1 : evE C G a env h = .ok (.d x) h1) (e2 : evE C G i env h1 = .ok (.d (.int j)) h2) (e : ixD x j = some z) : evE C G (.ix a i) env h = .ok (.d z) h2 := by
  rw [evE, e1]
  simp only [b_ok, e2]
  show lift (ixD x j) h2 = _
  rw [e]; rfl
theorem e_isi {a : Te} {t : Ty} {x : PyData} {h1 : Sh} (e1 : evE C G a env h = .ok (.d x) h1) : evE C G (.isi a [t]) env h = .ok (.d (.bool (isT t x))) h1 := by
  rw [evE, e1]
  simp only [b_ok, List.any_cons, List.any_nil, Bool.or_false]
theorem t_isi {a : Te} {t : Ty} {x : PyData} {h1 : Sh} {v : Bool} (e1 : evE C G a env h = .ok (.d x) h1) (e : isT t x = v) : tru (evE C G (.isi a [t]) env h) = .ok v h1 := by
  rw [e_isi e1, e]; rfl
theorem e_glob {g : Nat} {x : PyData} (e : G g = some x) : evE C G (.glob g) env h = .ok (.d x) h := by
  rw [evE, e]; rfl
theorem e_ite {t a b : Te} {v : Bool} {h1 : Sh} (q : tru (evE C G t env h) = .ok v h1) : evE C G (.ite t a b) env h = if v = true then evE C G a env h1 else evE C G b env h1 := by
  rw [evE]
  cases r : evE C G t env h with
  | no => rw [r] at q; cases q
  | ex _ _ => rw [r] at q; cases q
  | ok x h2 =>
    rw [r, t_ok] at q
    cases tv : truV x with
    | none => rw [tv] at q; cases q
    | some b => rw [tv] at q; cases q; simp only [b_ok, tv]; cases v <;> rfl
theorem t_orT {a b : Te} {r : List Te} {h1 : Sh} (q : tru (evE C G a env h) = .ok true h1) : tru (evE C G (.or (a :: b :: r)) env h) = .ok true h1 := by
  rw [evE, evOr_cons2]
  cases e : evE C G a env h with
  | no => rw [e] at q; cases q
  | ex _ _ => rw [e] at q; cases q
  | ok x h2 =>
    rw [e, t_ok] at q
    cases tv : truV x with
    | none => rw [tv] at q; cases q
    | some v => rw [tv] at q; cases q; simp only [b_ok, tv]; exact tru_ok_of tv
theorem t_orF {a b : Te} {r : List Te} {h1 : Sh} (q : tru (evE C G a env h) = .ok false h1) : tru (evE C G (.or (a :: b :: r)) env h) = tru (evE C G (.or (b :: r)) env h1) := by
  rw [evE, evOr_cons2, evE]
  cases e : evE C G a env h with
  | no => rw [e] at q; cases q
  | ex _ _ => rw [e] at q; cases q
  | ok x h2 =>
    rw [e, t_ok] at q
    cases tv : truV x with
    | none => rw [tv] at q; cases q
    | some v => rw [tv] at q; cases q; simp only [b_ok, tv]
theorem t_or1 {a : Te} : tru (evE C G (.or [a]) env h) = tru (evE C G a env h) := by rw [evE, evOr]
theorem t_andF {a b : Te} {r : List Te} {h1 : Sh} (q : tru (evE C G a env h) = .ok false h1) : tru (evE C G (.and (a :: b :: r)) env h) = .ok false h1 := by
  rw [evE, evAnd_cons2]
  cases e : evE C G a env h with
  | no => rw [e] at q; cases q
  | ex _ _ => rw [e] at q; cases q
  | ok x h2 =>
    rw [e, t_ok] at q
    cases tv : truV x with
    | none => rw [tv] at q; cases q
    | some v => rw [tv] at q; cases q; simp only [b_ok, tv]; exact tru_ok_of tv
theorem t_andT {a b : Te} {r : List Te} {h1 : Sh} (q : tru (evE C G a env h) = .ok true h1) : tru (evE C G (.and (a :: b :: r)) env h) = tru (evE C G (.and (b :: r)) env h1) := by
  rw [evE, evAnd_cons2, evE]
  cases e : evE C G a env h with
  | no => rw [e] at q; cases q
  | ex _ _ => rw [e] at q; cases q
  | ok x h2 =>
    rw [e, t_ok] at q
    cases tv : truV x with
    | none => rw [tv] at q; cases q
    | some v => rw [tv] at q; cases q; simp only [b_ok, tv]
theorem t_and1 {a : Te} : tru (evE C G (.and [a]) env h) = tru (evE C G a env h) := by rw [evE, evAnd]
/-- ors of tests that all have a value -/
theorem t_or {a b : Te} {r : List Te} {v w : Bool} (q : tru (evE C G a env h) = .ok v h) (q2 : v = false → tru (evE C G (.or (b :: r)) env h) = .ok w h) : tru (evE C G (.or (a :: b :: r)) env h) = .ok (v || w) h := by
  cases v with
  | true => exact t_orT q
  | false => exact (t_orF q).trans (q2 rfl)
theorem t_and {a b : Te} {r : List Te} {v w : Bool} (q : tru (evE C G a env h) = .ok v h) (q2 : v = true → tru (evE C G (.and (b :: r)) env h) = .ok w h) : tru (evE C G (.and (a :: b :: r)) env h) = .ok (v && w) h := by
  cases v with
  | false => exact t_andF q
  | true => exact (t_andT q).trans (q2 rfl)
end
end Mi
/-! Mi: data operators in closed forms. -/
namespace Mi
open PySem
theorem eqv_str {a b : Str} : PyData.eqv (.str a) (.str b) = decide (a = b) := by
  unfold PyData.eqv
  rw [Bool.eq_iff_iff]
  simp
theorem in_str {w : Str} {ys : List Str} : inD (.str w) (ys.map .str) = some (decide (w ∈ ys)) := by
  have hf : (ys.map PyData.str).all flatD = true := by
    rw [List.all_eq_true]
    intro x m
    obtain ⟨y, _, rfl⟩ := List.mem_map.mp m
    rfl
  unfold inD
  rw [hf]
  show some ((ys.map PyData.str).any fun y => PyData.eqv y (.str w)) = _
  congr 1
  clear hf
  induction ys with
  | nil => rfl
  | cons y ys ih =>
    rw [List.map_cons, List.any_cons, ih, eqv_str]
    by_cases e : y = w
    · subst e
      rw [decide_eq_true rfl, Bool.true_or, decide_eq_true List.mem_cons_self]
    · rw [decide_eq_false e, Bool.false_or]
      by_cases m : w ∈ ys
      · rw [decide_eq_true m, decide_eq_true (List.mem_cons_of_mem _ m)]
      · rw [decide_eq_false m, decide_eq_false fun z => (List.mem_cons.mp z).elim (fun q => e q.symm) m]
theorem eq_str {a b : Str} : eqD (.str a) (.str b) = some (decide (a = b)) := by
  show some _ = _
  rw [eqv_str]
theorem eq_int {a b : Int} : eqD (.int a) (.int b) = some (decide (a = b)) := by
  show some (PyData.eqv _ _) = _
  unfold PyData.eqv
  congr 1
theorem cmp_eq {a b : PyData} : cmpD .Eq a b = eqD a b := rfl
theorem cmp_ne {a b : PyData} : cmpD .NotEq a b = (eqD a b).map (!·) := rfl
theorem cmp_inT {a : PyData} {ys : List PyData} : cmpD .In a (.tuple ys) = inD a ys := rfl
theorem at_k {α : Type} {xs : List α} {k : Nat} {x : α} (e : xs[k]? = some x) : L2.atI xs k = some x := by
  have h := (List.getElem?_eq_some_iff.mp e).1
  unfold L2.atI L2.ixN
  rw [if_pos (by omega), if_pos (by omega)]
  exact e
theorem at_0 {α : Type} {x : α} {xs : List α} : L2.atI (x :: xs) 0 = some x := at_k (k := 0) rfl
theorem at_1 {α : Type} {x y : α} {xs : List α} : L2.atI (x :: y :: xs) 1 = some y := at_k (k := 1) rfl
theorem at_2 {α : Type} {x y z : α} {xs : List α} : L2.atI (x :: y :: z :: xs) 2 = some z := at_k (k := 2) rfl
theorem at_3 {α : Type} {x y z w : α} {xs : List α} : L2.atI (x :: y :: z :: w :: xs) 3 = some w := at_k (k := 3) rfl
theorem at_last {α : Type} {xs : List α} {x : α} : L2.atI (xs ++ [x]) (-1) = some x := by
  unfold L2.atI L2.ixN
  rw [if_neg (by decide), if_pos (by rw [List.length_append, List.length_singleton]; omega), List.length_append, List.length_singleton]
  show (xs ++ [x])[((-1 : Int) + ((xs.length + 1 : Nat) : Int)).toNat]? = some x
  rw [show ((-1 : Int) + ((xs.length + 1 : Nat) : Int)).toNat = xs.length by omega]
  simp
theorem ix_0 {x : PyData} {xs : List PyData} : ixD (.tuple (x :: xs)) 0 = some x := at_0
theorem ix_1 {x y : PyData} {xs : List PyData} : ixD (.tuple (x :: y :: xs)) 1 = some y := at_1
theorem ix_2 {x y z : PyData} {xs : List PyData} : ixD (.tuple (x :: y :: z :: xs)) 2 = some z := at_2
theorem ix_3 {x y z w : PyData} {xs : List PyData} : ixD (.tuple (x :: y :: z :: w :: xs)) 3 = some w := at_3
theorem len_eq {xs : List PyData} {m : Nat} : eqD (.int xs.length) (.int m) = some (decide (xs.length = m)) := by
  rw [eq_int]
  congr 1
  rw [decide_eq_decide]
  exact Int.ofNat_inj
end Mi
namespace Mi
open PySem
/-! what can be shown -/
def Fit (b n : Nat) (d : PyData) : Prop := d.showable = true ∧ d.shown.length ≤ b ∧ d.depth ≤ n
def Fits (b n : Nat) (xs : List PyData) : Prop := PyData.showableAll xs = true ∧ piled (PyData.shownAll xs) ≤ b ∧ PyData.depthAll xs ≤ n
theorem Fit.mono {b n b' n' : Nat} {d : PyData} (f : Fit b n d) (h : b ≤ b') (g : n ≤ n') : Fit b' n' d := ⟨f.1, Nat.le_trans f.2.1 h, Nat.le_trans f.2.2 g⟩
theorem Fits.mono {b n b' n' : Nat} {d : List PyData} (f : Fits b n d) (h : b ≤ b') (g : n ≤ n') : Fits b' n' d := ⟨f.1, Nat.le_trans f.2.1 h, Nat.le_trans f.2.2 g⟩
theorem fits_nil {b n : Nat} : Fits b n [] := ⟨by rw [PyData.showableAll], by rw [PyData.shownAll]; exact Nat.zero_le _, by rw [PyData.depthAll]; exact Nat.zero_le _⟩
theorem fits_cons {b n c : Nat} {x : PyData} {xs : List PyData} (f : Fit b n x) (g : Fits c n xs) : Fits (b + 2 + c) n (x :: xs) := by
  refine ⟨?_, ?_, ?_⟩
  · rw [PyData.showableAll, f.1, g.1]; rfl
  · rw [PyData.shownAll, piled_cons]
    have := f.2.1
    have := g.2.1
    omega
  · rw [PyData.depthAll]
    exact Nat.max_le.mpr ⟨f.2.2, g.2.2⟩
theorem tupT_len (ts : List Str) : (tupleText ts).length ≤ piled ts + 3 := by
  have hl : (tupleText ts).length ≤ 1 + (Str.join ", " ts).length + 2 := by
    unfold tupleText
    rw [strLen_append, strLen_append]
    have : ((if ts.length == 1 then ",)" else ")" : String) : Str).length ≤ 2 := by split <;> decide
    have : (("(" : String) : Str).length = 1 := rfl
    omega
  cases ts with
  | nil =>
    have : (Str.join ", " []).length = 0 := rfl
    omega
  | cons t r =>
    have := join_length_add (t :: r) (by simp)
    omega
theorem lisT_len : ∀ ts : List Str, (listText ts).length ≤ piled ts + 3
  | [] => by decide
  | t :: r => by
    have h := textFrom_length_pos r 1 (("[" : Str) ++ (if (0 : Nat) > 0 then ", " else "" : String) ++ t) (Nat.succ_pos 0)
    have e : ((("[" : Str) ++ (if (0 : Nat) > 0 then ", " else "" : String) ++ t)).length = 1 + t.length := by
      rw [strLen_append, strLen_append]; rfl
    have hX : (listText (t :: r)).length = (textFrom 0 "[" (t :: r)).length + 1 := by
      show (textFrom 0 "[" (t :: r) ++ "]").length = _
      rw [strLen_append]; rfl
    have hY : (textFrom 0 "[" (t :: r)).length = (textFrom 1 (("[" : Str) ++ (if (0 : Nat) > 0 then ", " else "" : String) ++ t) r).length := rfl
    rw [hX, hY, h, e, piled_cons]; omega
theorem fit_tup {b n : Nat} {xs : List PyData} (f : Fits b n xs) : Fit (b + 3) (n + 1) (.tuple xs) := by
  refine ⟨?_, ?_, ?_⟩
  · rw [PyData.showable]; exact f.1
  · rw [PyData.shown]
    have := tupT_len (PyData.shownAll xs)
    have := f.2.1
    omega
  · rw [PyData.depth]
    exact Nat.succ_le_succ f.2.2
theorem fit_list {b n : Nat} {xs : List PyData} (f : Fits b n xs) : Fit (b + 3) (n + 1) (.list xs) := by
  refine ⟨?_, ?_, ?_⟩
  · rw [PyData.showable]; exact f.1
  · rw [PyData.shown]
    have := lisT_len (PyData.shownAll xs)
    have := f.2.1
    omega
  · rw [PyData.depth]
    exact Nat.succ_le_succ f.2.2
theorem fit_int {i : Int} {n : Nat} (h : i.natAbs < 10 ^ 51) : Fit 52 n (.int i) := by
  refine ⟨?_, ?_, ?_⟩
  · rw [PyData.showable]
    refine decide_eq_true ?_
    by_cases z : i.natAbs = 0
    · rw [z]; decide
    · rw [Nat.log2_lt z]
      refine Nat.lt_trans h ?_
      exact Nat.lt_of_lt_of_le (show 10 ^ 51 < 2 ^ 170 by decide) (Nat.pow_le_pow_right (by decide) (by decide))
  · rw [PyData.shown, ofString_length]
    exact int_text_length_le10 (by decide) h
  · rw [PyData.depth]; exact Nat.zero_le _
theorem fit_str {w : Str} {n : Nat} (h : (reprText w).length ≤ 8) : Fit 8 n (.str w) := by
  refine ⟨by rw [PyData.showable], by rw [PyData.shown]; exact h, by rw [PyData.depth]; exact Nat.zero_le _⟩
theorem Fit.ok {b n : Nat} {d : PyData} (f : Fit b n d) (h : b ≤ SZ) (g : n ≤ 150) : showOk d = true := by
  unfold showOk
  rw [f.1, decide_eq_true (Nat.le_trans f.2.1 h), decide_eq_true (Nat.le_trans f.2.2 g)]
  rfl
theorem fit_strB {w : Str} {b n : Nat} (h : (reprText w).length ≤ b) : Fit b n (.str w) := by
  refine ⟨by rw [PyData.showable], by rw [PyData.shown]; exact h, by rw [PyData.depth]; exact Nat.zero_le _⟩
theorem repr_some {x : PyData} (o : showOk x = true) : biD .repr [x] = some (.str x.shown) := by
  show (if showOk x then some (PyData.str x.shown) else none) = _
  rw [if_pos o]
section
variable {C : Nat → List Vl → Sh → R Vl} {G : Nat → Option PyData} {W : Nat} {env : En} {h h1 h2 : Sh}
theorem xs_nil : evXs C G [] env h = .ok [] h := by rw [evXs]
theorem xs_e {e : Te} {r : List Tm} {x : Vl} {xs : List Sl} (q : evE C G e env h = .ok x h1) (q2 : evXs C G r env h1 = .ok xs h2) : evXs C G (.e e :: r) env h = .ok (.v x :: xs) h2 := by
  rw [evXs, q, b_ok, q2, b_ok]
theorem xs_l {l : Tl} {r : List Tm} {x : List PyData} {xs : List Sl} (q : evL C G l env h = .ok x h1) (q2 : evXs C G r env h1 = .ok xs h2) : evXs C G (.l l :: r) env h = .ok (.own x :: xs) h2 := by
  rw [evXs, q, b_ok, q2, b_ok]
theorem l_disp {es : List Te} {xs : List Vl} {dd : List PyData} (q : evEs C G es env h = .ok xs h1) (q2 : datL xs = some dd) (l : dd.length ≤ SZ) : evL C G (.disp es) env h = .ok dd h1 := by
  rw [evL, q]
  simp only [b_ok, q2]
  exact if_pos l
theorem l_compI {elt : Te} {tg : Tg} {kk : It} {es cs : List Te} {xs items : List Vl} {ys : List PyData} (q : evEs C G es env h = .ok xs h1) (i : evIt kk xs = some items) (l : items.length ≤ SZ) (c : compLoop tg (evC C G cs) (evE C G elt) (wipeE tg.names env) items h1 = .ok ys h2) :
    evL C G (.comp elt tg kk es cs) env h = .ok ys h2 := by
  rw [evL, q, b_ok]
  simp only [i]
  rw [if_pos l]
  exact c
theorem l_cat {a b : Te} {xs ys : List PyData} (q : evE C G a env h = .ok (.d (.list xs)) h1) (q2 : evE C G b env h1 = .ok (.d (.list ys)) h2) (l : xs.length + ys.length ≤ SZ) : evL C G (.cat a b) env h = .ok (xs ++ ys) h2 := by
  rw [evL, q, b_ok, q2, b_ok]
  exact if_pos l
theorem e_ofL {l : Tl} {ys : List PyData} (q : evL C G l env h = .ok ys h1) : evE C G (.ofL l) env h = .ok (.d (.list ys)) h1 := by
  rw [evE, q]; rfl
theorem e_newl {l : Tl} {xs : List PyData} (q : evL C G l env h = .ok xs h1) : evE C G (.newl l) env h = .ok (.ref h1.length) (h1 ++ [.lst xs]) := by
  rw [evE, q]; rfl
theorem comp_nil {tg : Tg} {cond : En → Sh → R Bool} {elt : En → Sh → R Vl} : compLoop tg cond elt env [] h = .ok [] h := by rw [compLoop]
theorem comp_next {tg : Tg} {elt : En → Sh → R Vl} {x : Vl} {xs : List Vl} {env' : En} {y : PyData} {ys : List PyData} (e : bindTg tg x env = some env') (q : elt env' h = .ok (.d y) h1) (q2 : compLoop tg (evC C G []) elt env xs h1 = .ok ys h2) : compLoop tg (evC C G []) elt env (x :: xs) h = .ok (y :: ys) h2 := by
  have e0 : evC C G [] env' h = .ok true h := by rw [evC]
  rw [compLoop, e]
  simp only [e0, noEx, b_ok, if_true, q, q2]
theorem comp_none {tg : Tg} {cond : En → Sh → R Bool} {elt : En → Sh → R Vl} {env : En} : ∀ (xs : List PyData) {h : Sh}, (∀ x ∈ xs, ∃ env', bindTg tg (.d x) env = some env' ∧ cond env' h = .ok false h) → compLoop tg cond elt env (xs.map .d) h = .ok [] h
  | [], h, _ => comp_nil
  | x :: xs, h, q => by
    obtain ⟨env', e1, e2⟩ := q x List.mem_cons_self
    have ih := comp_none (elt := elt) xs fun y m => q y (List.mem_cons_of_mem _ m)
    rw [List.map_cons, compLoop, e1]
    simp only [e2, noEx, b_ok, Bool.false_eq_true, if_false, ih]
theorem e_var {i : Nat} {x : Vl} (e : env[i]? = some (.v x)) : evE C G (.var i) env h = .ok x h := by rw [evE, e]
theorem e_ixR {a i : Te} {n : Nat} {xs : List PyData} {z : PyData} {j : Int} (e1 : evE C G a env h = .ok (.ref n) h) (e2 : evE C G i env h = .ok (.d (.int j)) h) (hn : h[n]? = some (.lst xs)) (e : L2.atI xs j = some z) : evE C G (.ix a i) env h = .ok (.d z) h := by
  rw [evE, e1, b_ok, e2, b_ok, ixV, hn]
  simp only [e]
  rfl
theorem s_setix {r i e : Te} {rest : List Ts} {n : Nat} {xs : List PyData} {v : PyData} {j : Int} {k : Nat} (q : evE C G e env h = .ok (.d v) h) (e1 : evE C G r env h = .ok (.ref n) h) (e2 : evE C G i env h = .ok (.d (.int j)) h) (hn : h[n]? = some (.lst xs)) (hk : L2.ixN xs.length j = some k) :
    evSs C G W (.setix r i e :: rest) env h = evSs C G W rest env (h.set n (.lst (xs.set k v))) := by
  rw [evSs, evS, q, b_ok, e1, b_ok, e2, b_ok]
  simp only [hn, hk]
  rfl
theorem fl_next {body : En → Sh → R Out} {tg : Tg} {x : Vl} {xs : List Vl} {env' e1 : En} {r : R Out} (e : bindTg tg x env = some env') (q : body env' h = .ok (.nx e1) h1) (q2 : forLoop body tg xs e1 h1 = r) : forLoop body tg (x :: xs) env h = r := by
  rw [fl_cons e, q, b_ok]
  exact q2
theorem fl_nil {body : En → Sh → R Out} {tg : Tg} : forLoop body tg [] env h = .ok (.nx env) h := by rw [forLoop]
theorem fl_ret {body : En → Sh → R Out} {tg : Tg} {x : Vl} {xs : List Vl} {env' : En} {v : Vl} (e : bindTg tg x env = some env') (q : body env' h = .ok (.rt v) h1) : forLoop body tg (x :: xs) env h = .ok (.rt v) h1 := by
  rw [fl_cons e, q, b_ok]
theorem ss_nil : evSs C G W [] env h = .ok (.nx env) h := by rw [evSs]
theorem e_slT' {a hi : Te} {x z : PyData} {j : Int} (e1 : evE C G a env h = .ok (.d x) h1) (e2 : evE C G hi env h1 = .ok (.d (.int j)) h2) (e : sliceD x none (some j) = some z) : evE C G (.sliceT a hi) env h = .ok (.d z) h2 := by
  rw [evE, e1, b_ok, e2]
  show lift (sliceD x none (some j)) h2 = _
  rw [e]; rfl
theorem e_slF' {a lo : Te} {x z : PyData} {j : Int} (e1 : evE C G a env h = .ok (.d x) h1) (e2 : evE C G lo env h1 = .ok (.d (.int j)) h2) (e : sliceD x (some j) none = some z) : evE C G (.sliceF a lo) env h = .ok (.d z) h2 := by
  rw [evE, e1, b_ok, e2]
  show lift (sliceD x (some j) none) h2 = _
  rw [e]; rfl
theorem e_slB' {a lo hi : Te} {x z : PyData} {i j : Int} {h3 : Sh} (e1 : evE C G a env h = .ok (.d x) h1) (e2 : evE C G lo env h1 = .ok (.d (.int i)) h2) (e3 : evE C G hi env h2 = .ok (.d (.int j)) h3) (e : sliceD x (some i) (some j) = some z) : evE C G (.sliceB a lo hi) env h = .ok (.d z) h3 := by
  rw [evE, e1, b_ok, e2, b_ok]
  show (evE C G hi env h2).bind _ = _
  rw [e3, b_ok]
  show lift (sliceD x (some i) (some j)) h3 = _
  rw [e]; rfl
theorem e_rev {a : Te} {x z : PyData} (e1 : evE C G a env h = .ok (.d x) h1) (e : revD x = some z) : evE C G (.rev a) env h = .ok (.d z) h1 := by
  rw [evE, e1, b_ok]
  show lift (revD x) h1 = _
  rw [e]; rfl
theorem e_me {m : ME} {a : Te} {es : List Te} {x : Str} {xs : List Vl} {dd : List PyData} {z : PyData} (e1 : evE C G a env h = .ok (.d (.str x)) h1) (q : evEs C G es env h1 = .ok xs h2) (q2 : datL xs = some dd) (e : meD m (.str x) dd = some z) : evE C G (.me m a es) env h = .ok (.d z) h2 := by
  rw [evE, e1, b_ok]
  show (evEs C G es env h1).bind _ = _
  rw [q, b_ok]
  simp only [q2, e, l_some]
theorem s_app {s : Nat} {e : Te} {r : List Ts} {v : PyData} {xs : List PyData} (hs : env[s]? = some (.own xs)) (q : evE C G e env h = .ok (.d v) h1) (l : xs.length < SZ) : evSs C G W (.app s e :: r) env h = evSs C G W r (env.set s (.own (xs ++ [v]))) h1 := by
  refine s_step ?_
  rw [evS, hs]
  simp only [q, b_ok]
  rw [if_pos l]
theorem s_ownix {s : Nat} {i e : Te} {r : List Ts} {v : PyData} {xs : List PyData} {j : Int} {k : Nat} (hs : env[s]? = some (.own xs)) (q : evE C G e env h = .ok (.d v) h1) (q2 : evE C G i env h1 = .ok (.d (.int j)) h2) (hk : L2.ixN xs.length j = some k) : evSs C G W (.ownix s i e :: r) env h = evSs C G W r (env.set s (.own (xs.set k v))) h2 := by
  refine s_step ?_
  rw [evS, hs]
  simp only [q, b_ok, q2, hk]
theorem s_aug {i : Nat} {op : Operator} {e : Te} {r : List Ts} {x y z : PyData} (hs : env[i]? = some (.v (.d x))) (f : flatD x = true) (q : evE C G e env h = .ok (.d y) h1) (b : binD op x y = some z) : evSs C G W (.aug i op e :: r) env h = evSs C G W r (env.set i (.v (.d z))) h1 := by
  refine s_step ?_
  rw [evS, hs]
  simp only [q, b_ok, f, if_true, b]
theorem s_freeze {i : Nat} {r : List Ts} {xs : List PyData} (hs : env[i]? = some (.own xs)) : evSs C G W (.freeze i :: r) env h = evSs C G W r (env.set i (.v (.d (.list xs)))) h := by
  refine s_step ?_
  rw [evS, hs]
/-- a while: k turns, each shown, then the test fails -/
theorem wh_stop {test : En → Sh → R Bool} {body : En → Sh → R Out} {k : Nat} (t : test env h = .ok false h1) : whLoop test body (k + 1) env h = .ok (.nx env) h1 := by
  rw [whLoop, t]; rfl
theorem wh_next {test : En → Sh → R Bool} {body : En → Sh → R Out} {k : Nat} {e1 : En} {r : R Out} (t : test env h = .ok true h1) (q : body env h1 = .ok (.nx e1) h2) (q2 : whLoop test body k e1 h2 = r) : whLoop test body (k + 1) env h = r := by
  rw [whLoop, t, b_ok, if_pos rfl, q, b_ok]
  exact q2
theorem wh_ret {test : En → Sh → R Bool} {body : En → Sh → R Out} {k : Nat} {v : Vl} (t : test env h = .ok true h1) (q : body env h1 = .ok (.rt v) h2) : whLoop test body (k + 1) env h = .ok (.rt v) h2 := by
  rw [whLoop, t, b_ok, if_pos rfl, q, b_ok]
theorem s_whileR {t : Te} {body r : List Ts} {v : Vl} (f : whLoop (fun e g => tru (evE C G t e g)) (evSs C G W body) W env h = .ok (.rt v) h2) : evSs C G W (.while t body :: r) env h = .ok (.rt v) h2 := by
  rw [evSs, evS, f]; rfl
end
end Mi
/-! Mi: texts as lists of their signs. -/
namespace Mi
open PySem PySem.StrLaws
abbrev sg (x : Str) : List Nat := TL.tl x
def sx (l : List Nat) : Str := ⟨l.toArray⟩
theorem sg_sx (l : List Nat) : sg (sx l) = l := rfl
theorem sx_sg (x : Str) : sx (sg x) = x := TL.mk_tl x
theorem sx_len (l : List Nat) : (sx l).length = l.length := by
  show l.toArray.size = _
  rw [List.size_toArray]
theorem sx_inj {a b : List Nat} (h : sx a = sx b) : a = b := congrArg sg h
theorem sx_app (a b : List Nat) : sx a ++ sx b = sx (a ++ b) := TL.ext_tl (by rw [TL.tl_append]; rfl)
theorem eq_sx {a b : List Nat} : eqD (.str (sx a)) (.str (sx b)) = some (decide (a = b)) := by
  rw [eq_str]
  congr 1
  rw [decide_eq_decide]
  exact ⟨sx_inj, fun e => by rw [e]⟩
theorem add_sx {a b : List Nat} (h : a.length + b.length ≤ SZ) : binD .Add (.str (sx a)) (.str (sx b)) = some (.str (sx (a ++ b))) := by
  show (if (sx a).length + (sx b).length ≤ SZ then some (PyData.str (sx a ++ sx b)) else none) = _
  rw [sx_len, sx_len, if_pos h, sx_app]
theorem len_sx {a : List Nat} (h : a.length ≤ SZ) : biD .len [.str (sx a)] = some (.int a.length) := by
  show (if (sx a).length ≤ SZ then some (PyData.int ((sx a).length : Nat)) else none) = _
  rw [sx_len, if_pos h]
theorem in_sx {c : Nat} {b : List Nat} : cmpD .In (.str (sx [c])) (.str (sx b)) = some (decide (c ∈ b)) := rfl
theorem nin_sx {c : Nat} {b : List Nat} : cmpD .NotIn (.str (sx [c])) (.str (sx b)) = some (!decide (c ∈ b)) := rfl
theorem seq_sx {l : List Nat} : evIt .seq [.d (.str (sx l))] = some ((l.map fun c => PyData.str (sx [c])).map .d) := rfl
theorem rev_sx {l : List Nat} (h : l.length ≤ SZ) : revD (.str (sx l)) = some (.str (sx l.reverse)) := by
  show (if (sx l).length ≤ SZ then some (PyData.str (sx l.reverse)) else none) = _
  rw [sx_len, if_pos h]
/-! slices -/
theorem cut_sx (l : List Nat) (lo hi : Option Int) : L2.cutS (sx l) lo hi = sx ((l.drop (HT.sIx l.length 0 lo)).take (HT.sIx l.length l.length hi - HT.sIx l.length 0 lo)) := by
  unfold L2.cutS
  rw [sx_len]
  rfl
theorem sl_any {l : List Nat} {lo hi : Option Int} (h : l.length ≤ SZ) : sliceD (.str (sx l)) lo hi = some (.str (sx ((l.drop (HT.sIx l.length 0 lo)).take (HT.sIx l.length l.length hi - HT.sIx l.length 0 lo)))) := by
  show (if (sx l).length ≤ SZ then some (PyData.str (L2.cutS (sx l) lo hi)) else none) = _
  rw [sx_len, if_pos h, cut_sx]
theorem sl_to {l : List Nat} {k : Nat} (h : l.length ≤ SZ) : sliceD (.str (sx l)) none (some (k : Int)) = some (.str (sx (l.take k))) := by
  rw [sl_any h, HT.sIx_nat, HT.sIx_none, List.drop_zero, Nat.sub_zero]
  congr 3
  rw [List.take_eq_take_iff]
  omega
theorem sl_from {l : List Nat} {k : Nat} (h : l.length ≤ SZ) : sliceD (.str (sx l)) (some (k : Int)) none = some (.str (sx (l.drop k))) := by
  rw [sl_any h, HT.sIx_nat, HT.sIx_none]
  rw [List.take_of_length_le (by rw [List.length_drop]; omega)]
  by_cases c : k ≤ l.length
  · rw [Nat.min_eq_left c]
  · rw [Nat.min_eq_right (by omega), List.drop_length, List.drop_eq_nil_of_le (by omega)]
theorem sl_btw {l : List Nat} {i j : Nat} (h : l.length ≤ SZ) : sliceD (.str (sx l)) (some (i : Int)) (some (j : Int)) = some (.str (sx ((l.drop i).take (j - i)))) := by
  rw [sl_any h, HT.sIx_nat, HT.sIx_nat]
  by_cases c : i ≤ l.length
  · rw [Nat.min_eq_left c]
    have e : (l.drop i).take (min j l.length - i) = (l.drop i).take (j - i) := by
      rw [List.take_eq_take_iff, List.length_drop]
      omega
    rw [e]
  · rw [Nat.min_eq_right (show l.length ≤ i by omega), List.drop_length, List.drop_eq_nil_of_le (show l.length ≤ i by omega), List.take_nil, List.take_nil]
theorem sl_last {l : List Nat} (h : l.length ≤ SZ) : sliceD (.str (sx l)) (some (-1)) none = some (.str (sx (l.drop (l.length - 1)))) := by
  have e : HT.sIx l.length 0 (some (-1)) = l.length - 1 := by
    show (if (-1 : Int) < 0 then ((-1 : Int) + (l.length : Int)).toNat else min (-1 : Int).toNat l.length) = _
    rw [if_pos (by decide)]
    omega
  rw [sl_any h, e, HT.sIx_none]
  rw [List.take_of_length_le (by rw [List.length_drop]; omega)]
theorem sl_init {l : List Nat} (h : l.length ≤ SZ) : sliceD (.str (sx l)) none (some (-1)) = some (.str (sx (l.take (l.length - 1)))) := by
  have e : HT.sIx l.length l.length (some (-1)) = l.length - 1 := by
    show (if (-1 : Int) < 0 then ((-1 : Int) + (l.length : Int)).toNat else min (-1 : Int).toNat l.length) = _
    rw [if_pos (by decide)]
    omega
  rw [sl_any h, e, HT.sIx_none, List.drop_zero, Nat.sub_zero]
theorem ix_sx {l : List Nat} {k c : Nat} (h : l.length ≤ SZ) (e : l[k]? = some c) : ixD (.str (sx l)) (k : Int) = some (.str (sx [c])) := by
  show (if (sx l).length ≤ SZ then (L2.atI l (k : Int)).map (fun c => PyData.str (sx [c])) else none) = _
  rw [sx_len, if_pos h, at_k e]
  rfl
/-! numbers -/
def numI (i : Int) : List Nat := if i < 0 then 45 :: TL.numL i.natAbs else TL.numL i.natAbs
theorem sg_int (i : Int) : sg (Str.ofString (toString i)) = numI i := by
  unfold numI
  cases i with
  | ofNat n =>
    rw [if_neg (by show ¬ ((n : Nat) : Int) < 0; omega)]
    exact TL.tl_num n
  | negSucc m =>
    rw [if_pos (by omega)]
    have e : toString (Int.negSucc m) = "-" ++ Nat.repr (m + 1) := rfl
    have e2 : Nat.repr (m + 1) = toString (((m + 1 : Nat)) : Int) := rfl
    have e3 := TL.tl_num (m + 1)
    show TL.tl _ = _
    rw [TL.tl_ofString] at e3 ⊢
    rw [e, String.toList_append, List.map_append, e2, e3]
    rfl
theorem int_sx (i : Int) : Str.ofString (toString i) = sx (numI i) := TL.ext_tl (sg_int i)
theorem str_sx {i : Int} (h : okS i = true) : biD .str [.int i] = some (.str (sx (numI i))) := by
  show (if okS i then some (PyData.str (Str.ofString (toString i))) else none) = _
  rw [if_pos h, int_sx]
theorem numI_len {i : Int} {k : Nat} (hk : 0 < k) (h : i.natAbs < 10 ^ k) : (numI i).length ≤ k + 1 := by
  unfold numI
  have := TL.numL_len hk h
  split
  · rw [List.length_cons]; omega
  · omega
/-- the value of a written number -/
def valI (l : List Nat) : Int := if l.take 1 = [45] then -((NumText.digitsVal (l.drop 1) : Nat) : Int) else ((NumText.digitsVal l : Nat) : Int)
def dig (c : Nat) : Bool := decide (48 ≤ c) && decide (c ≤ 57)
theorem all_dig {l : List Nat} (h : l.all dig = true) : NumText.AllDigits l := fun c m => by
  have := List.all_eq_true.mp h c m
  unfold dig at this
  rw [Bool.and_eq_true, decide_eq_true_eq, decide_eq_true_eq] at this
  exact this
theorem dig_all {l : List Nat} (h : NumText.AllDigits l) : l.all dig = true := List.all_eq_true.mpr fun c m => by
  have := h c m
  unfold dig
  rw [decide_eq_true this.1, decide_eq_true this.2]; rfl
theorem valI_num (i : Int) : valI (numI i) = i := by
  unfold valI numI
  by_cases c : i < 0
  · rw [if_pos c, if_pos (show (45 :: TL.numL i.natAbs).take 1 = [45] from rfl)]
    show -((NumText.digitsVal (TL.numL i.natAbs) : Nat) : Int) = i
    rw [TL.numL_val]
    omega
  · rw [if_neg c]
    have hd := TL.numL_digits i.natAbs
    have hn := TL.numL_ne i.natAbs
    cases e : TL.numL i.natAbs with
    | nil => exact absurd e hn
    | cons a r =>
      have := hd a (by rw [e]; exact List.mem_cons_self)
      rw [if_neg (by
        intro z
        have : a = 45 := by simpa using z
        omega), ← e, TL.numL_val]
      omega
theorem int_of_sx {l : List Nat} (h : (if l.take 1 = [45] then l.drop 1 else l).all dig = true) (h1 : (if l.take 1 = [45] then l.drop 1 else l) ≠ []) (h2 : l.length ≤ 640) : biD .int [.str (sx l)] = some (.int (valI l)) := by
  have e : intText? (sx l) = some (valI l) := by
    unfold valI
    by_cases c : l.take 1 = [45]
    · rw [if_pos c] at h h1 ⊢
      cases l with
      | nil => cases c
      | cons a r =>
        have ha : a = 45 := by simpa using c
        subst ha
        exact intText_neg (x := sx (45 :: r)) (cs := r) rfl (all_dig h) h1 (by rw [sx_len]; omega)
    · rw [if_neg c] at h h1 ⊢
      exact intText_digits (x := sx l) (all_dig h) h1 (by rw [sx_len]; omega)
  show (if (sx l).length ≤ 640 then (intText? (sx l)).map PyData.int else none) = _
  rw [sx_len, if_pos h2, e]
  rfl
/-! methods -/
def strL (ys : List (List Nat)) : List PyData := ys.map fun l => .str (sx l)
theorem strs_L : ∀ ys : List (List Nat), strsOf (strL ys) = some (ys.map sx)
  | [] => rfl
  | y :: ys => by
    show (strsOf (strL ys)).map (sx y :: ·) = _
    rw [strs_L ys]
    rfl
theorem map_sg (ys : List (List Nat)) : (ys.map sx).map TL.tl = ys := by
  rw [List.map_map]
  induction ys with
  | nil => rfl
  | cons y ys ih =>
    show sg (sx y) :: (ys.map (TL.tl ∘ sx)) = _
    rw [ih]
    rfl
theorem join_sx {s : List Nat} {ys : List (List Nat)} (h : (ys.map (·.length)).sum + ys.length * s.length ≤ SZ) : meD .join (.str (sx s)) [.list (strL ys)] = some (.str (sx (TL.joinL s ys))) := by
  show (strsOf (strL ys)).bind (fun ys => if (ys.map (·.length)).sum + ys.length * (sx s).length ≤ SZ then some (PyData.str (Txt.join (sx s) ys)) else none) = _
  rw [strs_L]
  have e : ((ys.map sx).map (·.length)).sum = (ys.map (·.length)).sum := by
    rw [List.map_map]
    congr 1
  show (if ((ys.map sx).map (·.length)).sum + (ys.map sx).length * (sx s).length ≤ SZ then some (PyData.str (Txt.join (sx s) (ys.map sx))) else none) = _
  rw [e, List.length_map, sx_len, if_pos h]
  congr 2
  refine TL.ext_tl ?_
  rw [TL.join_eq, TL.tl_join, map_sg]
  rfl
theorem split_sx {s l : List Nat} (hs : s ≠ []) (hk : s.all (· < 256) = true) (h : l.length + 2 ≤ SZ) : meD .split (.str (sx l)) [.str (sx s)] = some (.list (strL (TL.spl s 0 [] l))) := by
  show (if ((sx s).length == 0) = false ∧ (sx l).length + 2 ≤ SZ then some (PyData.list ((Txt.split (sx l) (sx s)).map .str)) else none) = _
  rw [sx_len, sx_len, if_pos ⟨by cases s with | nil => exact absurd rfl hs | cons _ _ => rfl, h⟩]
  congr 2
  have e := TL.split_spl (sx l) (sx s) hs (TL.kind_ok (by show s.toArray.all _ = true; rw [List.all_toArray]; exact hk))
  have e2 : Txt.split (sx l) (sx s) = (TL.spl s 0 [] l).map sx := TL.map_tl_inj (by rw [e, map_sg]; rfl)
  rw [e2]
  unfold strL
  rw [List.map_map]
  rfl
theorem part_sx {s l : List Nat} (hs : s ≠ []) (h : l.length ≤ SZ) : meD .partition (.str (sx l)) [.str (sx s)] = some (match TL.par s [] l with
    | some (a, b) => .tuple [.str (sx a), .str (sx s), .str (sx b)]
    | none => .tuple [.str (sx l), .str (sx []), .str (sx [])]) := by
  show (if ((sx s).length == 0) = false ∧ (sx l).length ≤ SZ then some (PyData.tuple [.str (Txt.partition (sx l) (sx s)).1, .str (Txt.partition (sx l) (sx s)).2.1, .str (Txt.partition (sx l) (sx s)).2.2]) else none) = _
  rw [sx_len, sx_len, if_pos ⟨by cases s with | nil => exact absurd rfl hs | cons _ _ => rfl, h⟩, TL.partition_par (sx l) (sx s) hs]
  show some (PyData.tuple [.str (match TL.par s [] l with | some (a, b) => (sx a, sx s, sx b) | none => (sx l, Str.empty, Str.empty)).1, .str (match TL.par s [] l with | some (a, b) => (sx a, sx s, sx b) | none => (sx l, Str.empty, Str.empty)).2.1, .str (match TL.par s [] l with | some (a, b) => (sx a, sx s, sx b) | none => (sx l, Str.empty, Str.empty)).2.2]) = _
  cases TL.par s [] l with
  | none => rfl
  | some p => rfl
theorem spl_count {c : Nat} : ∀ (l acc : List Nat), (TL.spl [c] 0 acc l).length = l.count c + 1
  | [], acc => rfl
  | d :: l, acc => by
    by_cases e : d = c
    · subst e
      have hp : TL.pre [d] (d :: l) = true := TL.pre_self [d] l
      rw [TL.spl_hit hp, List.length_cons]
      show (TL.spl [d] 0 [] l).length + 1 = _
      rw [spl_count l [], List.count_cons_self]
    · rw [TL.spl_miss (TL.pre_of_head _ _ e), spl_count l, List.count_cons_of_ne e]
theorem parts_len (x : Str) (w : Nat) : ∀ (cuts : List Nat) (a : Nat), (partsFrom x w a cuts).length = cuts.length + 1
  | [], a => rfl
  | c :: r, a => by
    show (partsFrom x w _ r).length + 1 = _
    rw [parts_len x w r]; rfl
theorem count_sx {c : Nat} {l : List Nat} : meD .count (.str (sx l)) [.str (sx [c])] = some (.int (l.count c)) := by
  have hy : TL.tl (sx [c]) ≠ [] := by show [c] ≠ []; simp
  obtain ⟨f, g, hn⟩ := occ_tight (sx l) (sx [c]) (TL.len1 hy)
  have key := TL.parts_spl hy _ 0 f (Nat.zero_le _) g hn
  rw [List.drop_zero] at key
  have e := congrArg List.length key
  rw [List.length_map, parts_len] at e
  have e2 : (TL.spl (TL.tl (sx [c])) 0 [] (TL.tl (sx l))).length = l.count c + 1 := spl_count l []
  rw [e2] at e
  show some (PyData.int (Txt.count (sx l) (sx [c]))) = _
  congr 2
  unfold Txt.count
  omega
/-- a call with the defaults -/
theorem call_atD {Φ : Nat → Option Fd} {G : Nat → Option PyData} {W k i : Nat} {xs : List Vl} {h : Sh} {F : Fd} (e : Φ i = some F) (l : xs.length ≠ F.ps) (l2 : xs.length + F.df.length = F.ps) : callF Φ G W (k + 1) i xs h = fin (evSs (callF Φ G W k) G W F.body (startE F.n (xs ++ F.df.map .d)) h) := by
  rw [callF, e]
  dsimp only
  rw [if_neg l, if_pos l2]
  rfl
end Mi
namespace Tx
open PySem PySem.Spec PyProof.Rows Mi
def top (i : Nat) : Stmt := PySem.Challenge.pw_roomprofile_k90_definition_texts.main.body.getD i (.Pass ⟨0, 0, 0, 0⟩)
/-! 0 is_integer ['value'] -/
def f0 : Fd := ⟨1, 1, [.ret (.and [.isi (.var 0) [.int], .not (.isi (.var 0) [.bool])])], []⟩
def e0 : DefE := ⟨"is_integer", "is_integer", top 5, f0, ["value"], ["value"]⟩
/-! 1 is_between ['value', 'low', 'high'] -/
def f1 : Fd := ⟨3, 3, [.ret (.and [.call 0 [.var 0], .chain .LtE .LtE (.var 1) (.var 0) (.var 2)])], []⟩
def e1 : DefE := ⟨"is_between", "is_between", top 6, f1, ["value", "low", "high"], ["value", "low", "high"]⟩
/-! 2 measured_jobs ['value', 'depth'] -/
def f2 : Fd := ⟨2, 2, [.iff (.cmp .Eq (.var 1) (.cst (.int 0))) [.ret (.cst .none)] [], .iff (.call 1 [.var 0, .bin .Sub (.cst (.int 0)) (.glob 0), .glob 0]) [.ret (.tup [.cst (.int 1), .cst (.int 1)])] [], .iff (.or [.not (.isi (.var 0) [.tuple]), .cmp .Eq (.var 0) (.tup []), .not (.isi (.ix (.var 0) (.cst (.int 0))) [.str])]) [.ret (.cst .none)] [], .iff (.and [.cmp .In (.ix (.var 0) (.cst (.int 0))) (.glob 5), .cmp .Eq (.bi .len [.var 0]) (.cst (.int 2))]) [.ret (.call 3 [.ix (.var 0) (.cst (.int 1)), .var 1])] [], .iff (.and [.cmp .In (.ix (.var 0) (.cst (.int 0))) (.glob 6), .cmp .Eq (.bi .len [.var 0]) (.cst (.int 3))]) [.ret (.call 4 [.ix (.var 0) (.cst (.int 1)), .ix (.var 0) (.cst (.int 2)), .var 1])] [], .ret (.cst .none)], []⟩
def e2 : DefE := ⟨"measured_jobs", "measured", top 15, f2, ["value", "depth"], ["value", "depth"]⟩
/-! 3 measured_parts_jobs ['parts', 'depth', 'part', 'nodes', 'steps', 'sizes'] -/
def f3 : Fd := ⟨2, 6, [.iff (.or [.not (.isi (.var 0) [.tuple]), .cmp .Gt (.bi .len [.var 0]) (.glob 2)]) [.ret (.cst .none)] [], .asg (.t [3, 4]) (.tup [.cst (.int 1), .cst (.int 0)]), .for (.n 2) .seq [.var 0] [.asg (.n 5) (.call 2 [.var 2, .bin .Sub (.var 1) (.cst (.int 1))]), .iff (.cmp .Is (.var 5) (.cst .none)) [.ret (.cst .none)] [], .par [3, 4] [.e (.bin .Add (.var 3) (.ix (.var 5) (.cst (.int 0)))), .e (.bin .Add (.var 4) (.ix (.var 5) (.cst (.int 1))))], .iff (.or [.cmp .Gt (.var 3) (.glob 3), .cmp .Gt (.var 4) (.glob 1)]) [.ret (.cst .none)] []], .ret (.tup [.var 3, .var 4])], []⟩
def e3 : DefE := ⟨"measured_parts_jobs", "measured_parts", top 17, f3, ["parts", "depth", "part", "nodes", "steps", "sizes"], ["parts", "depth"]⟩
/-! 4 measured_multiple ['count', 'inner', 'depth', 'sizes'] -/
def f4 : Fd := ⟨3, 4, [.iff (.not (.call 1 [.var 0, .cst (.int 0), .glob 1])) [.ret (.cst .none)] [], .asg (.n 3) (.call 2 [.var 1, .bin .Sub (.var 2) (.cst (.int 1))]), .iff (.or [.cmp .Is (.var 3) (.cst .none), .cmp .Eq (.ix (.var 3) (.cst (.int 0))) (.glob 3), .cmp .Gt (.bin .Mult (.var 0) (.ix (.var 3) (.cst (.int 1)))) (.glob 1)]) [.ret (.cst .none)] [], .ret (.tup [.bin .Add (.cst (.int 1)) (.ix (.var 3) (.cst (.int 0))), .bin .Mult (.var 0) (.ix (.var 3) (.cst (.int 1)))])], []⟩
def e4 : DefE := ⟨"measured_multiple", "measured_multiple", top 19, f4, ["count", "inner", "depth", "sizes"], ["count", "inner", "depth"]⟩
/-! 5 is_job ['value'] -/
def f5 : Fd := ⟨1, 1, [.ret (.cmp .IsNot (.call 2 [.var 0, .glob 4]) (.cst .none))], []⟩
def e5 : DefE := ⟨"is_job", "is_job", top 20, f5, ["value"], ["value"]⟩
/-! 6 is_name ['value', 'letter'] -/
def f6 : Fd := ⟨1, 2, [.iff (.or [.not (.isi (.var 0) [.str]), .not (.chain .LtE .LtE (.cst (.int 1)) (.bi .len [.var 0]) (.glob 9))]) [.ret (.cst (.bool false))] [], .ret (.bi .all [.ofL (.comp (.cmp .In (.var 1) (.glob 8)) (.n 1) .seq [.var 0] [])])], []⟩
def e6 : DefE := ⟨"is_name", "is_name", top 25, f6, ["value", "letter"], ["value"]⟩
/-! 7 measured_definitions ['value', 'depth', 'sizes'] -/
def f7 : Fd := ⟨2, 3, [.iff (.cmp .Eq (.var 1) (.cst (.int 0))) [.ret (.cst .none)] [], .iff (.call 1 [.var 0, .bin .Sub (.cst (.int 0)) (.glob 0), .glob 0]) [.ret (.tup [.cst (.int 1), .cst (.int 1)])] [], .iff (.or [.not (.isi (.var 0) [.tuple]), .cmp .Eq (.var 0) (.tup []), .not (.isi (.ix (.var 0) (.cst (.int 0))) [.str])]) [.ret (.cst .none)] [], .iff (.cmp .Eq (.ix (.var 0) (.cst (.int 0))) (.glob 7)) [.ret (.ite (.and [.cmp .Eq (.bi .len [.var 0]) (.cst (.int 2)), .call 6 [.ix (.var 0) (.cst (.int 1))]]) (.tup [.cst (.int 1), .cst (.int 0)]) (.cst .none))] [], .iff (.and [.cmp .In (.ix (.var 0) (.cst (.int 0))) (.glob 5), .cmp .Eq (.bi .len [.var 0]) (.cst (.int 2))]) [.ret (.call 8 [.ix (.var 0) (.cst (.int 1)), .var 1])] [], .iff (.and [.cmp .In (.ix (.var 0) (.cst (.int 0))) (.glob 6), .cmp .Eq (.bi .len [.var 0]) (.cst (.int 3)), .call 1 [.ix (.var 0) (.cst (.int 1)), .cst (.int 0), .glob 1]]) [.asg (.n 2) (.call 7 [.ix (.var 0) (.cst (.int 2)), .bin .Sub (.var 1) (.cst (.int 1))]), .ret (.ite (.cmp .Is (.var 2) (.cst .none)) (.cst .none) (.call 9 [.bin .Add (.cst (.int 1)) (.ix (.var 2) (.cst (.int 0))), .bin .Mult (.ix (.var 0) (.cst (.int 1))) (.ix (.var 2) (.cst (.int 1)))]))] [], .ret (.cst .none)], []⟩
def e7 : DefE := ⟨"measured_definitions", "measured", top 26, f7, ["value", "depth", "sizes"], ["value", "depth"]⟩
/-! 8 measured_parts_definitions ['parts', 'depth', 'total', 'part', 'sizes'] -/
def f8 : Fd := ⟨2, 5, [.iff (.or [.not (.isi (.var 0) [.tuple]), .cmp .Gt (.bi .len [.var 0]) (.glob 2)]) [.ret (.cst .none)] [], .asg (.n 2) (.tup [.cst (.int 1), .cst (.int 0)]), .for (.n 3) .seq [.var 0] [.asg (.n 4) (.call 7 [.var 3, .bin .Sub (.var 1) (.cst (.int 1))]), .iff (.or [.cmp .Is (.var 4) (.cst .none), .cmp .Is (.var 2) (.cst .none)]) [.ret (.cst .none)] [], .asg (.n 2) (.call 9 [.bin .Add (.ix (.var 2) (.cst (.int 0))) (.ix (.var 4) (.cst (.int 0))), .bin .Add (.ix (.var 2) (.cst (.int 1))) (.ix (.var 4) (.cst (.int 1)))])], .ret (.var 2)], []⟩
def e8 : DefE := ⟨"measured_parts_definitions", "measured_parts", top 28, f8, ["parts", "depth", "total", "part", "sizes"], ["parts", "depth"]⟩
/-! 9 within_limits ['nodes', 'steps'] -/
def f9 : Fd := ⟨2, 2, [.ret (.ite (.and [.cmp .LtE (.var 0) (.glob 3), .cmp .LtE (.var 1) (.glob 1)]) (.tup [.var 0, .var 1]) (.cst .none))], []⟩
def e9 : DefE := ⟨"within_limits", "within_limits", top 30, f9, ["nodes", "steps"], ["nodes", "steps"]⟩
/-! 10 is_definition_by ['value'] -/
def f10 : Fd := ⟨1, 1, [.ret (.cmp .IsNot (.call 7 [.var 0, .glob 4]) (.cst .none))], []⟩
def e10 : DefE := ⟨"is_definition_by", "is_definition_by", top 31, f10, ["value"], ["value"]⟩
/-! 11 is_definition ['value'] -/
def f11 : Fd := ⟨1, 1, [.ret (.call 10 [.var 0])], []⟩
def e11 : DefE := ⟨"is_definition", "is_definition", top 33, f11, ["value"], ["value"]⟩
/-! 12 integer_of ['text', 'most', 'digits', 'digit'] -/
def f12 : Fd := ⟨2, 4, [.asg (.n 2) (.ite (.cmp .Eq (.sliceT (.var 0) (.cst (.int 1))) (.cst (.str "-"))) (.sliceF (.var 0) (.cst (.int 1))) (.var 0)), .iff (.or [.not (.chain .LtE .LtE (.cst (.int 1)) (.bi .len [.var 2]) (.var 1)), .not (.bi .all [.ofL (.comp (.cmp .In (.var 3) (.glob 10)) (.n 3) .seq [.var 2] [])])]) [.ret (.cst .none)] [], .iff (.and [.cmp .Eq (.ix (.var 2) (.cst (.int 0))) (.cst (.str "0")), .cmp .NotEq (.var 0) (.cst (.str "0"))]) [.ret (.cst .none)] [], .ret (.bi .int [.var 0])], [.int 61]⟩
def e12 : DefE := ⟨"integer_of", "integer_of", top 43, f12, ["text", "most", "digits", "digit"], ["text", "most"]⟩
/-! 13 need_string ['text'] -/
def f13 : Fd := ⟨1, 1, [.iff (.not (.isi (.var 0) [.str])) [.raise 2] []], []⟩
def e13 : DefE := ⟨"need_string", "need_string", top 44, f13, ["text"], ["text"]⟩
/-! 14 written ['job', 'part'] -/
def f14 : Fd := ⟨1, 2, [.iff (.call 0 [.var 0]) [.ret (.bi .str [.var 0])] [], .iff (.cmp .In (.ix (.var 0) (.cst (.int 0))) (.glob 15)) [.ret (.bin .Add (.bin .Add (.bin .Add (.ix (.var 0) (.cst (.int 0))) (.glob 12)) (.me .join (.glob 14) [.ofL (.comp (.call 14 [.var 1]) (.n 1) .seq [.ix (.var 0) (.cst (.int 1))] [])])) (.glob 13))] [], .iff (.cmp .Eq (.ix (.var 0) (.cst (.int 0))) (.glob 17)) [.ret (.bin .Add (.bin .Add (.bin .Add (.glob 17) (.glob 12)) (.ix (.var 0) (.cst (.int 1)))) (.glob 13))] [], .ret (.bin .Add (.bin .Add (.bin .Add (.bin .Add (.bin .Add (.ix (.var 0) (.cst (.int 0))) (.glob 12)) (.bi .str [.ix (.var 0) (.cst (.int 1))])) (.glob 14)) (.call 14 [.ix (.var 0) (.cst (.int 2))])) (.glob 13))], []⟩
def e14 : DefE := ⟨"written", "written", top 45, f14, ["job", "part"], ["job"]⟩
/-! 15 split_parts ['text', 'found', 'depth', 'piece'] -/
def f15 : Fd := ⟨1, 4, [.own 1 (.disp [.cst (.str "")]), .asg (.n 2) (.cst (.int 0)), .for (.n 3) .seq [.me .split (.var 0) [.glob 14]] [.ownix 1 (.neg (.cst (.int 1))) (.bin .Add (.bin .Add (.ix (.peek 1) (.neg (.cst (.int 1)))) (.ite (.cmp .Gt (.var 2) (.cst (.int 0))) (.glob 14) (.cst (.str "")))) (.var 3)), .aug 2 .Add (.bin .Sub (.me .count (.var 3) [.glob 12]) (.me .count (.var 3) [.glob 13])), .iff (.cmp .LtE (.var 2) (.cst (.int 0))) [.app 1 (.cst (.str ""))] []], .freeze 1, .ret (.ite (.cmp .Eq (.ix (.peek 1) (.neg (.cst (.int 1)))) (.cst (.str ""))) (.sliceT (.peek 1) (.neg (.cst (.int 1)))) (.var 1))], []⟩
def e15 : DefE := ⟨"split_parts", "split_parts", top 46, f15, ["text", "found", "depth", "piece"], ["text"]⟩
/-! 16 read_inner ['word', 'inner', 'depth', 'parts', 'part'] -/
def f16 : Fd := ⟨3, 5, [.iff (.cmp .Eq (.var 0) (.glob 17)) [.ret (.tup [.glob 17, .var 1])] [], .asg (.n 3) (.ite (.cmp .NotEq (.var 1) (.cst (.str ""))) (.call 15 [.var 1]) (.ofL (.disp []))), .iff (.cmp .In (.var 0) (.glob 15)) [.ret (.tup [.var 0, .bi .tuple [.ofL (.comp (.call 17 [.var 4, .bin .Sub (.var 2) (.cst (.int 1))]) (.n 4) .seq [.var 3] [])]])] [], .iff (.and [.cmp .In (.var 0) (.glob 16), .cmp .Eq (.bi .len [.var 3]) (.cst (.int 2))]) [.ret (.tup [.var 0, .call 12 [.ix (.var 3) (.cst (.int 0))], .call 17 [.ix (.var 3) (.cst (.int 1)), .bin .Sub (.var 2) (.cst (.int 1))]])] [], .ret (.cst .none)], []⟩
def e16 : DefE := ⟨"read_inner", "read_inner", top 47, f16, ["word", "inner", "depth", "parts", "part"], ["word", "inner", "depth"]⟩
/-! 17 read ['text', 'depth', 'word', 'sign', 'rest'] -/
def f17 : Fd := ⟨2, 5, [.iff (.cmp .Eq (.var 1) (.cst (.int 0))) [.ret (.cst .none)] [], .asg (.t [2, 3, 4]) (.me .partition (.var 0) [.glob 12]), .iff (.cmp .Eq (.var 3) (.cst (.str ""))) [.ret (.call 12 [.var 0])] [], .ret (.ite (.cmp .Eq (.sliceF (.var 4) (.neg (.cst (.int 1)))) (.glob 13)) (.call 16 [.var 2, .sliceT (.var 4) (.neg (.cst (.int 1))), .var 1]) (.cst .none))], []⟩
def e17 : DefE := ⟨"read", "read", top 48, f17, ["text", "depth", "word", "sign", "rest"], ["text", "depth"]⟩
/-! 18 job_text ['job'] -/
def f18 : Fd := ⟨1, 1, [.iff (.not (.call 5 [.var 0])) [.raise 1] [], .ret (.call 14 [.var 0])], []⟩
def e18 : DefE := ⟨"job_text", "job_text", top 49, f18, ["job"], ["job"]⟩
/-! 19 parse_job ['text', 'job'] -/
def f19 : Fd := ⟨1, 2, [.expr (.call 13 [.var 0]), .asg (.n 1) (.call 17 [.var 0, .glob 4]), .iff (.or [.not (.call 5 [.var 1]), .cmp .NotEq (.call 14 [.var 1]) (.var 0)]) [.raise 2] [], .ret (.var 1)], []⟩
def e19 : DefE := ⟨"parse_job", "parse_job", top 50, f19, ["text", "job"], ["text"]⟩
/-! 20 definition_text ['definition'] -/
def f20 : Fd := ⟨1, 1, [.iff (.not (.call 11 [.var 0])) [.raise 1] [], .ret (.call 14 [.var 0])], []⟩
def e20 : DefE := ⟨"definition_text", "definition_text", top 51, f20, ["definition"], ["definition"]⟩
/-! 21 parse_definition ['text', 'definition'] -/
def f21 : Fd := ⟨1, 2, [.expr (.call 13 [.var 0]), .asg (.n 1) (.call 17 [.var 0, .glob 4]), .iff (.or [.not (.call 11 [.var 1]), .cmp .NotEq (.call 14 [.var 1]) (.var 0)]) [.raise 2] [], .ret (.var 1)], []⟩
def e21 : DefE := ⟨"parse_definition", "parse_definition", top 52, f21, ["text", "definition"], ["text"]⟩
/-! 22 _law_source ['_law_script', '_law_at', '_law_cell', '_law_size', '_law_mixed'] -/
def f22 : Fd := ⟨2, 5, [.asg (.n 2) (.ite (.cmp .Lt (.var 1) (.bi .len [.var 0])) (.ix (.var 0) (.var 1)) (.bin .Add (.bin .Mult (.cst (.int 3)) (.var 1)) (.cst (.int 2)))), .asg (.n 3) (.bin .Mod (.bi .abs [.var 2]) (.bin .Pow (.bin .Pow (.cst (.int 10)) (.cst (.int 60))) (.cst (.int 12)))), .asg (.n 4) (.bin .Add (.bin .Add (.bin .Mult (.var 3) (.cst (.int 2862933555777941757))) (.bin .Mult (.cst (.int 3037000493)) (.var 1))) (.bi .int [.cmp .Lt (.var 2) (.cst (.int 0))])), .ret (.newl (.disp [.bi .max [.cst (.int 0), .bin .Sub (.var 3) (.bin .Pow (.cst (.int 10)) (.cst (.int 18)))], .bin .Mod (.var 4) (.cst (.int 72057594037927931)), .cst (.int 0)]))], []⟩
def e22 : DefE := ⟨"_law_source", "_law_source", top 54, f22, ["_law_script", "_law_at", "_law_cell", "_law_size", "_law_mixed"], ["_law_script", "_law_at"]⟩
/-! 23 _law_draw ['_law_source_here', '_law_many', '_law_one', '_law_two', '_law_found'] -/
def f23 : Fd := ⟨2, 5, [.iff (.cmp .Gt (.ix (.var 0) (.cst (.int 0))) (.cst (.int 0))) [.asg (.n 4) (.bin .Mod (.ix (.var 0) (.cst (.int 0))) (.var 1)), .setix (.var 0) (.cst (.int 0)) (.bin .FloorDiv (.ix (.var 0) (.cst (.int 0))) (.var 1)), .ret (.var 4)] [], .setix (.var 0) (.cst (.int 2)) (.bin .Add (.ix (.var 0) (.cst (.int 2))) (.cst (.int 1))), .asg (.n 2) (.bin .Mod (.bin .Add (.ix (.var 0) (.cst (.int 1))) (.bin .Mult (.cst (.int 11400714819323198)) (.ix (.var 0) (.cst (.int 2))))) (.cst (.int 18014398509481951))), .asg (.n 3) (.bin .Mult (.bin .Mod (.bin .Mult (.var 2) (.var 2)) (.cst (.int 36028797018963913))) (.var 2)), .asg (.n 3) (.bin .Mod (.bin .Add (.bin .Add (.var 3) (.bin .Mult (.cst (.int 2654435761)) (.ix (.var 0) (.cst (.int 2))))) (.bin .Mod (.ix (.var 0) (.cst (.int 1))) (.cst (.int 65521)))) (.cst (.int 1125899906842597))), .ret (.bin .Mod (.bin .FloorDiv (.bin .Mod (.bin .Mult (.var 3) (.var 3)) (.cst (.int 562949953421231))) (.cst (.int 512))) (.var 1))], []⟩
def e23 : DefE := ⟨"_law_draw", "_law_draw", top 55, f23, ["_law_source_here", "_law_many", "_law_one", "_law_two", "_law_found"], ["_law_source_here", "_law_many"]⟩
/-! 24 _law_great ['_law_source_here', '_law_many', '_law_found', '_law_turn'] -/
def f24 : Fd := ⟨2, 4, [.asg (.n 2) (.cst (.int 0)), .for (.n 3) .range1 [.cst (.int 4)] [.asg (.n 2) (.bin .Add (.bin .Mult (.var 2) (.bin .Pow (.cst (.int 10)) (.cst (.int 9)))) (.call 23 [.var 0, .bin .Pow (.cst (.int 10)) (.cst (.int 9))]))], .ret (.bin .Mod (.var 2) (.var 1))], []⟩
def e24 : DefE := ⟨"_law_great", "_law_great", top 56, f24, ["_law_source_here", "_law_many", "_law_found", "_law_turn"], ["_law_source_here", "_law_many"]⟩
/-! 25 _law_step ['_law_source_here', '_law_way', '_law_some'] -/
def f25 : Fd := ⟨1, 3, [.asg (.n 1) (.call 23 [.var 0, .cst (.int 12)]), .iff (.cmp .Lt (.var 1) (.cst (.int 7))) [.ret (.bin .Sub (.call 23 [.var 0, .cst (.int 13)]) (.cst (.int 6)))] [], .iff (.cmp .Lt (.var 1) (.cst (.int 9))) [.ret (.ix (.ofL (.disp [.cst (.int 0), .cst (.int 1), .neg (.cst (.int 1)), .cst (.int 2), .neg (.cst (.int 2)), .cst (.int 9)])) (.call 23 [.var 0, .cst (.int 6)]))] [], .iff (.cmp .Lt (.var 1) (.cst (.int 11))) [.ret (.bin .Sub (.call 23 [.var 0, .cst (.int 201)]) (.cst (.int 100)))] [], .asg (.n 2) (.ofL (.disp [.bin .Pow (.cst (.int 10)) (.cst (.int 30)), .bin .Sub (.cst (.int 0)) (.bin .Pow (.cst (.int 10)) (.cst (.int 30))), .bin .Pow (.cst (.int 10)) (.cst (.int 18)), .call 24 [.var 0, .bin .Pow (.cst (.int 10)) (.cst (.int 30))], .bin .Sub (.cst (.int 0)) (.call 24 [.var 0, .bin .Pow (.cst (.int 10)) (.cst (.int 30))])])), .ret (.ix (.var 2) (.call 23 [.var 0, .cst (.int 5)]))], []⟩
def e25 : DefE := ⟨"_law_step", "_law_step", top 57, f25, ["_law_source_here", "_law_way", "_law_some"], ["_law_source_here"]⟩
/-! 26 _law_empty ['_law_source_here'] -/
def f26 : Fd := ⟨1, 1, [.ret (.ix (.ofL (.disp [.tup [.cst (.str "seq"), .tup []], .tup [.cst (.str "par"), .tup []], .tup [.cst (.str "repeat"), .cst (.int 0), .cst (.int 5)], .tup [.cst (.str "copies"), .cst (.int 0), .tup [.cst (.str "seq"), .tup [.cst (.int 1), .neg (.cst (.int 2))]]]])) (.call 23 [.var 0, .cst (.int 4)]))], []⟩
def e26 : DefE := ⟨"_law_empty", "_law_empty", top 58, f26, ["_law_source_here"], ["_law_source_here"]⟩
/-! 27 _law_job ['_law_source_here', '_law_most', '_law_deep', '_law_way', '_law_count', '_law_turn', '_law_parts', '_law_left', '_law_few'] -/
def f27 : Fd := ⟨3, 9, [.asg (.n 3) (.call 23 [.var 0, .cst (.int 10)]), .iff (.cmp .Eq (.var 1) (.cst (.int 0))) [.ret (.call 26 [.var 0])] [], .iff (.or [.cmp .Lt (.var 2) (.cst (.int 2)), .cmp .Lt (.var 3) (.cst (.int 2))]) [.ret (.call 25 [.var 0])] [], .iff (.cmp .Lt (.var 3) (.cst (.int 8))) [.par [6, 7] [.l (.disp []), .e (.var 1)], .for (.n 5) .range1 [.bin .Add (.cst (.int 1)) (.call 23 [.var 0, .cst (.int 4)])] [.asg (.n 8) (.ite (.cmp .Eq (.var 7) (.cst (.int 0))) (.cst (.int 0)) (.bin .Add (.cst (.int 1)) (.call 23 [.var 0, .var 7]))), .app 6 (.call 27 [.var 0, .var 8, .bin .Sub (.var 2) (.cst (.int 1))]), .asg (.n 7) (.bin .Sub (.var 7) (.var 8))], .ret (.tup [.ix (.ofL (.disp [.cst (.str "seq"), .cst (.str "par")])) (.bin .Mod (.var 3) (.cst (.int 2))), .bi .tuple [.peek 6]])] [], .asg (.n 4) (.call 23 [.var 0, .bin .Add (.bi .min [.var 1, .cst (.int 3)]) (.cst (.int 1))]), .ret (.tup [.ix (.ofL (.disp [.cst (.str "repeat"), .cst (.str "copies")])) (.bin .Mod (.var 3) (.cst (.int 2))), .var 4, .call 27 [.var 0, .bin .FloorDiv (.var 1) (.bi .max [.cst (.int 1), .var 4]), .bin .Sub (.var 2) (.cst (.int 1))]])], []⟩
def e27 : DefE := ⟨"_law_job", "_law_job", top 59, f27, ["_law_source_here", "_law_most", "_law_deep", "_law_way", "_law_count", "_law_turn", "_law_parts", "_law_left", "_law_few"], ["_law_source_here", "_law_most", "_law_deep"]⟩
/-! 28 _law_names ['_law_source_here', '_law_many', '_law_letters', '_law_found', '_law_turn', '_law_name', '_law_place', '_law_again'] -/
def f28 : Fd := ⟨2, 8, [.asg (.n 2) (.cst (.str "abcdefghijklmnopqrstuvwxyz")), .own 3 (.disp []), .for (.n 4) .range1 [.var 1] [.asg (.n 5) (.cst (.str "")), .for (.n 6) .range1 [.ix (.ofL (.disp [.cst (.int 1), .cst (.int 1), .cst (.int 2), .cst (.int 3), .cst (.int 8)])) (.call 23 [.var 0, .cst (.int 5)])] [.asg (.n 5) (.bin .Add (.var 5) (.ix (.var 2) (.call 23 [.var 0, .cst (.int 26)])))], .iff (.and [.cmp .NotEq (.peek 3) (.ofL (.disp [])), .cmp .Eq (.call 23 [.var 0, .cst (.int 4)]) (.cst (.int 0))]) [.asg (.n 5) (.sliceT (.bin .Add (.ix (.peek 3) (.neg (.cst (.int 1)))) (.cst (.str "a"))) (.cst (.int 8)))] [], .for (.n 7) .range1 [.var 1] [.iff (.cmp .In (.var 5) (.peek 3)) [.asg (.n 5) (.bin .Add (.ix (.var 2) (.bin .Mod (.bin .Add (.me .index (.var 2) [.ix (.var 5) (.cst (.int 0))]) (.cst (.int 1))) (.cst (.int 26)))) (.sliceF (.var 5) (.cst (.int 1))))] []], .app 3 (.var 5)], .freeze 3, .ret (.var 3)], []⟩
def e28 : DefE := ⟨"_law_names", "_law_names", top 60, f28, ["_law_source_here", "_law_many", "_law_letters", "_law_found", "_law_turn", "_law_name", "_law_place", "_law_again"], ["_law_source_here", "_law_many"]⟩
/-! 29 _law_step_count ['_law_job_here', '_law_part'] -/
def f29 : Fd := ⟨1, 2, [.iff (.isi (.var 0) [.int]) [.ret (.cst (.int 1))] [], .iff (.cmp .In (.ix (.var 0) (.cst (.int 0))) (.tup [.cst (.str "seq"), .cst (.str "par")])) [.ret (.bi .sum [.ofL (.comp (.call 29 [.var 1]) (.n 1) .seq [.ix (.var 0) (.cst (.int 1))] [])])] [], .ret (.bin .Mult (.ix (.var 0) (.cst (.int 1))) (.call 29 [.ix (.var 0) (.cst (.int 2))]))], []⟩
def e29 : DefE := ⟨"_law_step_count", "_law_step_count", top 61, f29, ["_law_job_here", "_law_part"], ["_law_job_here"]⟩
/-! 30 _law_rich_job ['_law_source_here', '_law_most', '_law_deep', '_law_turn', '_law_job_here'] -/
def f30 : Fd := ⟨3, 5, [.for (.n 3) .range1 [.cst (.int 5)] [.asg (.n 4) (.call 27 [.var 0, .var 1, .var 2]), .iff (.cmp .Gt (.call 29 [.var 4]) (.cst (.int 2))) [.ret (.var 4)] []], .ret (.tup [.cst (.str "par"), .tup [.tup [.cst (.str "seq"), .tup [.cst (.int 5), .neg (.cst (.int 3))]], .tup [.cst (.str "copies"), .cst (.int 2), .neg (.cst (.int 1))]]])], []⟩
def e30 : DefE := ⟨"_law_rich_job", "_law_rich_job", top 62, f30, ["_law_source_here", "_law_most", "_law_deep", "_law_turn", "_law_job_here"], ["_law_source_here", "_law_most", "_law_deep"]⟩
/-! 31 _law_written ['_law_job_here', '_law_inner', '_law_place', '_law_part'] -/
def f31 : Fd := ⟨1, 4, [.iff (.isi (.var 0) [.int]) [.ret (.bi .str [.var 0])] [], .iff (.cmp .Eq (.ix (.var 0) (.cst (.int 0))) (.cst (.str "use"))) [.ret (.bin .Add (.bin .Add (.cst (.str "use(")) (.ix (.var 0) (.cst (.int 1)))) (.cst (.str ")")))] [], .iff (.cmp .In (.ix (.var 0) (.cst (.int 0))) (.tup [.cst (.str "seq"), .cst (.str "par")])) [.asg (.n 1) (.cst (.str "")), .for (.t [2, 3]) .enum [.ix (.var 0) (.cst (.int 1))] [.asg (.n 1) (.bin .Add (.bin .Add (.var 1) (.ix (.ofL (.disp [.cst (.str ""), .cst (.str ", ")])) (.bi .int [.cmp .Gt (.var 2) (.cst (.int 0))]))) (.call 31 [.var 3]))], .ret (.bin .Add (.bin .Add (.bin .Add (.ix (.var 0) (.cst (.int 0))) (.cst (.str "("))) (.var 1)) (.cst (.str ")")))] [], .ret (.bin .Add (.bin .Add (.bin .Add (.bin .Add (.bin .Add (.ix (.var 0) (.cst (.int 0))) (.cst (.str "("))) (.bi .str [.ix (.var 0) (.cst (.int 1))])) (.cst (.str ", "))) (.call 31 [.ix (.var 0) (.cst (.int 2))])) (.cst (.str ")")))], []⟩
def e31 : DefE := ⟨"_law_written", "_law_written", top 63, f31, ["_law_job_here", "_law_inner", "_law_place", "_law_part"], ["_law_job_here"]⟩
/-! 32 _law_digits ['_law_text', '_law_at', '_law_end', '_law_first'] -/
def f32 : Fd := ⟨2, 4, [.asg (.n 2) (.bin .Add (.var 1) (.bi .int [.cmp .Eq (.sliceB (.var 0) (.var 1) (.bin .Add (.var 1) (.cst (.int 1)))) (.cst (.str "-"))])), .asg (.n 3) (.var 2), .while (.and [.cmp .NotEq (.sliceB (.var 0) (.var 2) (.bin .Add (.var 2) (.cst (.int 1)))) (.cst (.str "")), .cmp .In (.ix (.var 0) (.var 2)) (.cst (.str "0123456789"))]) [.asg (.n 2) (.bin .Add (.var 2) (.cst (.int 1)))], .iff (.or [.cmp .Eq (.var 2) (.var 3), .and [.cmp .Eq (.ix (.var 0) (.var 3)) (.cst (.str "0")), .or [.cmp .Gt (.var 2) (.bin .Add (.var 3) (.cst (.int 1))), .cmp .Gt (.var 3) (.var 1)]]]) [.ret (.var 1)] [], .ret (.var 2)], []⟩
def e32 : DefE := ⟨"_law_digits", "_law_digits", top 64, f32, ["_law_text", "_law_at", "_law_end", "_law_first"], ["_law_text", "_law_at"]⟩
/-! 33 _law_read_parts ['_law_text', '_law_at', '_law_parts', '_law_found'] -/
def f33 : Fd := ⟨2, 4, [.own 2 (.disp []), .while (.cmp .NotEq (.sliceB (.var 0) (.var 1) (.bin .Add (.var 1) (.cst (.int 1)))) (.cst (.str ")"))) [.iff (.cmp .NotEq (.peek 2) (.ofL (.disp []))) [.iff (.cmp .NotEq (.sliceB (.var 0) (.var 1) (.bin .Add (.var 1) (.cst (.int 2)))) (.cst (.str ", "))) [.ret (.cst .none)] [], .asg (.n 1) (.bin .Add (.var 1) (.cst (.int 2)))] [], .asg (.n 3) (.call 34 [.var 0, .var 1]), .iff (.cmp .Is (.var 3) (.cst .none)) [.ret (.cst .none)] [], .app 2 (.ix (.var 3) (.cst (.int 0))), .asg (.n 1) (.ix (.var 3) (.cst (.int 1)))], .freeze 2, .ret (.tup [.var 2, .bin .Add (.var 1) (.cst (.int 1))])], []⟩
def e33 : DefE := ⟨"_law_read_parts", "_law_read_parts", top 65, f33, ["_law_text", "_law_at", "_law_parts", "_law_found"], ["_law_text", "_law_at"]⟩
/-! 34 _law_read ['_law_text', '_law_at', '_law_end', '_law_word', '_law_found', '_law_name'] -/
def f34 : Fd := ⟨2, 6, [.asg (.n 2) (.call 32 [.var 0, .var 1]), .iff (.cmp .Gt (.var 2) (.var 1)) [.ret (.ite (.cmp .Lt (.bin .Sub (.var 2) (.var 1)) (.cst (.int 99))) (.tup [.bi .int [.sliceB (.var 0) (.var 1) (.var 2)], .var 2]) (.cst .none))] [], .asg (.n 3) (.ix (.me .partition (.sliceF (.var 0) (.var 1)) [.cst (.str "(")]) (.cst (.int 0))), .iff (.or [.cmp .NotIn (.var 3) (.tup [.cst (.str "seq"), .cst (.str "par"), .cst (.str "repeat"), .cst (.str "copies"), .cst (.str "use")]), .cmp .NotEq (.sliceB (.var 0) (.bin .Add (.var 1) (.bi .len [.var 3])) (.bin .Add (.bin .Add (.var 1) (.bi .len [.var 3])) (.cst (.int 1)))) (.cst (.str "("))]) [.ret (.cst .none)] [], .asg (.n 1) (.bin .Add (.bin .Add (.var 1) (.bi .len [.var 3])) (.cst (.int 1))), .iff (.cmp .Eq (.var 3) (.cst (.str "use"))) [.asg (.n 5) (.ix (.me .partition (.sliceF (.var 0) (.var 1)) [.cst (.str ")")]) (.cst (.int 0))), .ret (.ite (.cmp .Eq (.sliceB (.var 0) (.bin .Add (.var 1) (.bi .len [.var 5])) (.bin .Add (.bin .Add (.var 1) (.bi .len [.var 5])) (.cst (.int 1)))) (.cst (.str ")"))) (.tup [.tup [.cst (.str "use"), .var 5], .bin .Add (.bin .Add (.var 1) (.bi .len [.var 5])) (.cst (.int 1))]) (.cst .none))] [], .asg (.n 4) (.call 33 [.var 0, .var 1]), .iff (.or [.cmp .Is (.var 4) (.cst .none), .cmp .In (.var 3) (.tup [.cst (.str "seq"), .cst (.str "par")])]) [.ret (.ite (.cmp .Is (.var 4) (.cst .none)) (.cst .none) (.tup [.tup [.var 3, .bi .tuple [.ix (.var 4) (.cst (.int 0))]], .ix (.var 4) (.cst (.int 1))]))] [], .iff (.or [.cmp .NotEq (.bi .len [.ix (.var 4) (.cst (.int 0))]) (.cst (.int 2)), .not (.isi (.ix (.ix (.var 4) (.cst (.int 0))) (.cst (.int 0))) [.int])]) [.ret (.cst .none)] [], .ret (.tup [.tup [.var 3, .ix (.ix (.var 4) (.cst (.int 0))) (.cst (.int 0)), .ix (.ix (.var 4) (.cst (.int 0))) (.cst (.int 1))], .ix (.var 4) (.cst (.int 1))])], []⟩
def e34 : DefE := ⟨"_law_read", "_law_read", top 66, f34, ["_law_text", "_law_at", "_law_end", "_law_word", "_law_found", "_law_name"], ["_law_text", "_law_at"]⟩
/-! 35 _law_parsed ['_law_text', '_law_found'] -/
def f35 : Fd := ⟨1, 2, [.asg (.n 1) (.call 34 [.var 0, .cst (.int 0)]), .ret (.ite (.and [.cmp .IsNot (.var 1) (.cst .none), .cmp .Eq (.ix (.var 1) (.cst (.int 1))) (.bi .len [.var 0])]) (.ix (.var 1) (.cst (.int 0))) (.cst .none))], []⟩
def e35 : DefE := ⟨"_law_parsed", "_law_parsed", top 67, f35, ["_law_text", "_law_found"], ["_law_text"]⟩
/-! 36 _law_bent_text ['_law_source_here', '_law_text', '_law_sign', '_law_at', '_law_way'] -/
def f36 : Fd := ⟨2, 5, [.par [3, 4] [.e (.call 23 [.var 0, .bin .Add (.bi .len [.var 1]) (.cst (.int 1))]), .e (.call 23 [.var 0, .cst (.int 6)])], .asg (.n 2) (.ix (.cst (.str "0123456789-(), serqpacoutw:.")) (.call 23 [.var 0, .cst (.int 28)])), .iff (.cmp .Eq (.var 4) (.cst (.int 0))) [.ret (.bin .Add (.sliceT (.var 1) (.var 3)) (.sliceF (.var 1) (.bin .Add (.var 3) (.cst (.int 1)))))] [], .iff (.cmp .Eq (.var 4) (.cst (.int 1))) [.ret (.bin .Add (.bin .Add (.sliceT (.var 1) (.var 3)) (.var 2)) (.sliceF (.var 1) (.var 3)))] [], .iff (.cmp .Eq (.var 4) (.cst (.int 2))) [.ret (.bin .Add (.bin .Add (.sliceT (.var 1) (.var 3)) (.var 2)) (.sliceF (.var 1) (.bin .Add (.var 3) (.cst (.int 1)))))] [], .iff (.cmp .Eq (.var 4) (.cst (.int 3))) [.ret (.bin .Add (.bin .Add (.sliceT (.var 1) (.var 3)) (.rev (.sliceB (.var 1) (.var 3) (.bin .Add (.var 3) (.cst (.int 2)))))) (.sliceF (.var 1) (.bin .Add (.var 3) (.cst (.int 2)))))] [], .ret (.ite (.cmp .Eq (.var 4) (.cst (.int 4))) (.bin .Add (.bin .Add (.sliceT (.var 1) (.var 3)) (.sliceB (.var 1) (.var 3) (.bin .Add (.var 3) (.cst (.int 2))))) (.sliceF (.var 1) (.var 3))) (.sliceT (.var 1) (.var 3)))], []⟩
def e36 : DefE := ⟨"_law_bent_text", "_law_bent_text", top 68, f36, ["_law_source_here", "_law_text", "_law_sign", "_law_at", "_law_way"], ["_law_source_here", "_law_text"]⟩
/-! 37 _law_used ['_law_source_here', '_law_job_here', '_law_names_here', '_law_part'] -/
def f37 : Fd := ⟨3, 4, [.iff (.isi (.var 1) [.int]) [.ret (.ite (.cmp .Eq (.call 23 [.var 0, .cst (.int 2)]) (.cst (.int 0))) (.tup [.cst (.str "use"), .ix (.var 2) (.call 23 [.var 0, .bi .len [.var 2]])]) (.var 1))] [], .iff (.cmp .In (.ix (.var 1) (.cst (.int 0))) (.tup [.cst (.str "seq"), .cst (.str "par")])) [.ret (.tup [.ix (.var 1) (.cst (.int 0)), .bi .tuple [.ofL (.comp (.call 37 [.var 0, .var 3, .var 2]) (.n 3) .seq [.ix (.var 1) (.cst (.int 1))] [])]])] [], .ret (.tup [.ix (.var 1) (.cst (.int 0)), .ix (.var 1) (.cst (.int 1)), .call 37 [.var 0, .ix (.var 1) (.cst (.int 2)), .var 2]])], []⟩
def e37 : DefE := ⟨"_law_used", "_law_used", top 69, f37, ["_law_source_here", "_law_job_here", "_law_names_here", "_law_part"], ["_law_source_here", "_law_job_here", "_law_names_here"]⟩
/-! 38 _law_told ['_law_text', 'e'] -/
def f38 : Fd := ⟨1, 2, [.tryE [.ret (.call 21 [.var 0])] 0 [0, 1, 2] 1 (.ite (.and (.isx 2 [2]) (.not (.isx 1 [1]))) (.cst (.str "refused")) (.cst (.str "odd")))], []⟩
def e38 : DefE := ⟨"_law_told", "_law_told", top 70, f38, ["_law_text", "e"], ["_law_text"]⟩
/-! 39 _law_text_right ['_law_text', '_law_found', '_law_good'] -/
def f39 : Fd := ⟨1, 3, [.asg (.n 1) (.call 35 [.var 0]), .asg (.n 2) (.and [.cmp .IsNot (.var 1) (.cst .none), .call 11 [.var 1], .cmp .Eq (.call 31 [.var 1]) (.var 0)]), .ret (.cmp .Eq (.bi .repr [.call 38 [.var 0]]) (.bi .repr [.ite (.var 2) (.var 1) (.cst (.str "refused"))]))], []⟩
def e39 : DefE := ⟨"_law_text_right", "_law_text_right", top 71, f39, ["_law_text", "_law_found", "_law_good"], ["_law_text"]⟩
/-! 40 _law_written_ones ['_law_some', '_law_row'] -/
def f40 : Fd := ⟨0, 2, [.asg (.n 0) (.ofL (.disp [.cst (.str "use(a)"), .cst (.str "use()"), .cst (.str "use(A)"), .cst (.str "use(abcdefgh)"), .cst (.str "use(abcdefghi)"), .cst (.str "use(a"), .cst (.str "use(a))"), .cst (.str "use( a)"), .cst (.str "use(a, b)")])), .asg (.n 0) (.bin .Add (.var 0) (.ofL (.disp [.cst (.str "use(seq)"), .cst (.str "use"), .cst (.str "use(1)"), .cst (.str "seq(use(a), 1, use(b))"), .cst (.str "copies(3, use(a))"), .cst (.str "copies(use(a), 3)")]))), .asg (.n 0) (.bin .Add (.var 0) (.ofL (.disp [.cst (.str "use(use(a))"), .cst (.str "7")]))), .asg (.n 0) (.bin .Add (.var 0) (.ofL (.disp [.cst (.str "use(a)use(b)"), .cst (.str "par(use(a),use(b))"), .cst (.str "use(a)
"), .cst (.str "use(a
)"), .cst (.str "
use(a)"), .cst (.str "use(	a)"), .bin .Mult (.cst (.str "9")) (.cst (.int 5000))]))), .asg (.n 1) (.bin .Add (.bin .Add (.cst (.str "seq(")) (.bin .Mult (.cst (.str "use(a), ")) (.cst (.int 59)))) (.cst (.str "use(b))"))), .asg (.n 0) (.bin .Add (.var 0) (.ofL (.disp [.bin .Add (.bin .Add (.cst (.str "par(")) (.me .join (.cst (.str ", ")) [.bin .Mult (.ofL (.disp [.var 1])) (.cst (.int 6))])) (.cst (.str ")")), .bin .Add (.bin .Add (.cst (.str "par(")) (.me .join (.cst (.str ", ")) [.bin .Mult (.ofL (.disp [.var 1])) (.cst (.int 7))])) (.cst (.str ")"))]))), .asg (.n 0) (.bin .Add (.var 0) (.ofL (.disp [.bin .Add (.bin .Add (.cst (.str "copies(1")) (.bin .Mult (.cst (.str "0")) (.cst (.int 30)))) (.cst (.str ", use(a))")), .bin .Add (.bin .Add (.cst (.str "copies(1")) (.bin .Mult (.cst (.str "0")) (.cst (.int 29)))) (.cst (.str "1, use(a))"))]))), .ret (.bin .Add (.var 0) (.ofL (.disp [.bin .Add (.bin .Add (.bin .Mult (.cst (.str "seq(")) (.cst (.int 12))) (.cst (.str "use(a)"))) (.bin .Mult (.cst (.str ")")) (.cst (.int 12))), .bin .Add (.bin .Add (.bin .Mult (.cst (.str "seq(")) (.cst (.int 13))) (.cst (.str "use(a)"))) (.bin .Mult (.cst (.str ")")) (.cst (.int 13)))])))], []⟩
def e40 : DefE := ⟨"_law_written_ones", "_law_written_ones", top 72, f40, ["_law_some", "_law_row"], []⟩
/-! 41 law ['_law_script', '_law_at', '_law_source_here', '_law_names_here', '_law_job_here', '_law_definition', '_law_text', '_law_plain', '_law_turn'] -/
def f41 : Fd := ⟨1, 9, [.iff (.cmp .NotEq (.ofL (.comp (.var 6) (.n 6) .seq [.call 40 []] [.not (.call 39 [.var 6])])) (.ofL (.disp []))) [.ret (.cst (.bool false))] [], .iff (.cmp .NotEq (.call 38 [.bin .Add (.bin .Add (.bin .Mult (.cst (.str "seq(")) (.cst (.int 3000))) (.cst (.str "use(a)"))) (.bin .Mult (.cst (.str ")")) (.cst (.int 3000)))]) (.cst (.str "refused"))) [.ret (.cst (.bool false))] [], .for (.n 1) .range1 [.bi .max [.cst (.int 1), .bi .min [.cst (.int 8), .bi .len [.var 0]]]] [.asg (.n 2) (.call 22 [.var 0, .var 1]), .asg (.n 3) (.call 28 [.var 2, .bin .Add (.cst (.int 1)) (.call 23 [.var 2, .cst (.int 4)])]), .asg (.n 4) (.call 30 [.var 2, .cst (.int 9), .cst (.int 5)]), .asg (.n 5) (.call 37 [.var 2, .var 4, .var 3]), .asg (.n 6) (.call 31 [.var 5]), .iff (.or [.cmp .NotEq (.bi .repr [.call 20 [.var 5]]) (.bi .repr [.var 6]), .cmp .NotEq (.bi .repr [.call 21 [.var 6]]) (.bi .repr [.var 5])]) [.ret (.cst (.bool false))] [], .asg (.n 7) (.call 18 [.var 4]), .iff (.or [.cmp .NotEq (.bi .repr [.call 20 [.var 4]]) (.bi .repr [.var 7]), .cmp .NotEq (.bi .repr [.call 21 [.var 7]]) (.bi .repr [.call 19 [.var 7]])]) [.ret (.cst (.bool false))] [], .for (.n 8) .range1 [.cst (.int 10)] [.iff (.not (.call 39 [.call 36 [.var 2, .var 6]])) [.ret (.cst (.bool false))] []]], .ret (.cst (.bool true))], []⟩
def e41 : DefE := ⟨"law", "law", top 73, f41, ["_law_script", "_law_at", "_law_source_here", "_law_names_here", "_law_job_here", "_law_definition", "_law_text", "_law_plain", "_law_turn"], ["_law_script"]⟩
def ds : List DefE := [e0, e1, e2, e3, e4, e5, e6, e7, e8, e9, e10, e11, e12, e13, e14, e15, e16, e17, e18, e19, e20, e21, e22, e23, e24, e25, e26, e27, e28, e29, e30, e31, e32, e33, e34, e35, e36, e37, e38, e39, e40, e41]
def gs : List (Str × PyData) := [("MAX_STEP", .int 1000000000000000000000000000000), ("MAX_COUNT", .int 1000000000000000000000000000000), ("MAX_PARTS", .int 400), ("MAX_NODES", .int 400), ("MAX_DEPTH", .int 13), ("GROUPS_jobs", .tuple [.str "seq", .str "par"]), ("MULTIPLES", .tuple [.str "repeat", .str "copies"]), ("USE_definitions", .str "use"), ("LETTERS", .str "abcdefghijklmnopqrstuvwxyz"), ("MAX_LETTERS", .int 8), ("DIGITS", .str "0123456789"), ("MOST_DIGITS", .int 61), ("OPEN", .str "("), ("CLOSE", .str ")"), ("COMMA", .str ", "), ("GROUPS_formats", .tuple [.str "seq", .str "par"]), ("COUNTED", .tuple [.str "repeat", .str "copies"]), ("USE_formats", .str "use")]
def csl : List Str := ["JobError", "InvalidJob", "ParseError"]
def sbl : List (List Nat) := [[0], [0, 1], [0, 2]]
def tb : Tb := ⟨fnT ds, glT gs, fun i => csl[i]?, subT sbl, 3⟩
theorem c0 : DefC tb e0 := ⟨⟨⟨rfl, rfl, rfl, by decide +kernel, rfl, by decide +kernel, by decide +kernel⟩, rfl, rfl, by decide +kernel⟩⟩
theorem b0 : BdN e0 := fun _ _ _ _ _ _ us hl => match us, hl with | [_], _ => rfl
theorem c1 : DefC tb e1 := ⟨⟨⟨rfl, rfl, rfl, by decide +kernel, rfl, by decide +kernel, by decide +kernel⟩, rfl, rfl, by decide +kernel⟩⟩
theorem b1 : BdN e1 := fun _ _ _ _ _ _ us hl => match us, hl with | [_, _, _], _ => rfl
theorem c2 : DefC tb e2 := ⟨⟨⟨rfl, rfl, rfl, by decide +kernel, rfl, by decide +kernel, by decide +kernel⟩, rfl, rfl, by decide +kernel⟩⟩
theorem b2 : BdN e2 := fun _ _ _ _ _ _ us hl => match us, hl with | [_, _], _ => rfl
theorem c3 : DefC tb e3 := ⟨⟨⟨rfl, rfl, rfl, by decide +kernel, rfl, by decide +kernel, by decide +kernel⟩, rfl, rfl, by decide +kernel⟩⟩
theorem b3 : BdN e3 := fun _ _ _ _ _ _ us hl => match us, hl with | [_, _], _ => rfl
theorem c4 : DefC tb e4 := ⟨⟨⟨rfl, rfl, rfl, by decide +kernel, rfl, by decide +kernel, by decide +kernel⟩, rfl, rfl, by decide +kernel⟩⟩
theorem b4 : BdN e4 := fun _ _ _ _ _ _ us hl => match us, hl with | [_, _, _], _ => rfl
theorem c5 : DefC tb e5 := ⟨⟨⟨rfl, rfl, rfl, by decide +kernel, rfl, by decide +kernel, by decide +kernel⟩, rfl, rfl, by decide +kernel⟩⟩
theorem b5 : BdN e5 := fun _ _ _ _ _ _ us hl => match us, hl with | [_], _ => rfl
theorem c6 : DefC tb e6 := ⟨⟨⟨rfl, rfl, rfl, by decide +kernel, rfl, by decide +kernel, by decide +kernel⟩, rfl, rfl, by decide +kernel⟩⟩
theorem b6 : BdN e6 := fun _ _ _ _ _ _ us hl => match us, hl with | [_], _ => rfl
theorem c7 : DefC tb e7 := ⟨⟨⟨rfl, rfl, rfl, by decide +kernel, rfl, by decide +kernel, by decide +kernel⟩, rfl, rfl, by decide +kernel⟩⟩
theorem b7 : BdN e7 := fun _ _ _ _ _ _ us hl => match us, hl with | [_, _], _ => rfl
theorem c8 : DefC tb e8 := ⟨⟨⟨rfl, rfl, rfl, by decide +kernel, rfl, by decide +kernel, by decide +kernel⟩, rfl, rfl, by decide +kernel⟩⟩
theorem b8 : BdN e8 := fun _ _ _ _ _ _ us hl => match us, hl with | [_, _], _ => rfl
theorem c9 : DefC tb e9 := ⟨⟨⟨rfl, rfl, rfl, by decide +kernel, rfl, by decide +kernel, by decide +kernel⟩, rfl, rfl, by decide +kernel⟩⟩
theorem b9 : BdN e9 := fun _ _ _ _ _ _ us hl => match us, hl with | [_, _], _ => rfl
theorem c10 : DefC tb e10 := ⟨⟨⟨rfl, rfl, rfl, by decide +kernel, rfl, by decide +kernel, by decide +kernel⟩, rfl, rfl, by decide +kernel⟩⟩
theorem b10 : BdN e10 := fun _ _ _ _ _ _ us hl => match us, hl with | [_], _ => rfl
theorem c11 : DefC tb e11 := ⟨⟨⟨rfl, rfl, rfl, by decide +kernel, rfl, by decide +kernel, by decide +kernel⟩, rfl, rfl, by decide +kernel⟩⟩
theorem b11 : BdN e11 := fun _ _ _ _ _ _ us hl => match us, hl with | [_], _ => rfl
theorem c12 : DefC tb e12 := ⟨⟨⟨rfl, rfl, rfl, by decide +kernel, rfl, by decide +kernel, by decide +kernel⟩, rfl, rfl, by decide +kernel⟩⟩
theorem b12 : BdD e12 := ⟨fun _ _ _ _ _ _ _ us its h1 h2 => match us, its, h1, h2 with | [_, _], [_], _, _ => ⟨_, rfl, rfl⟩, fun _ _ _ _ _ _ _ us its h1 h2 => match us, its, h1, h2 with | [_], [_], _, _ => ⟨_, rfl, rfl⟩⟩
theorem c13 : DefC tb e13 := ⟨⟨⟨rfl, rfl, rfl, by decide +kernel, rfl, by decide +kernel, by decide +kernel⟩, rfl, rfl, by decide +kernel⟩⟩
theorem b13 : BdN e13 := fun _ _ _ _ _ _ us hl => match us, hl with | [_], _ => rfl
theorem c14 : DefC tb e14 := ⟨⟨⟨rfl, rfl, rfl, by decide +kernel, rfl, by decide +kernel, by decide +kernel⟩, rfl, rfl, by decide +kernel⟩⟩
theorem b14 : BdN e14 := fun _ _ _ _ _ _ us hl => match us, hl with | [_], _ => rfl
theorem c15 : DefC tb e15 := ⟨⟨⟨rfl, rfl, rfl, by decide +kernel, rfl, by decide +kernel, by decide +kernel⟩, rfl, rfl, by decide +kernel⟩⟩
theorem b15 : BdN e15 := fun _ _ _ _ _ _ us hl => match us, hl with | [_], _ => rfl
theorem c16 : DefC tb e16 := ⟨⟨⟨rfl, rfl, rfl, by decide +kernel, rfl, by decide +kernel, by decide +kernel⟩, rfl, rfl, by decide +kernel⟩⟩
theorem b16 : BdN e16 := fun _ _ _ _ _ _ us hl => match us, hl with | [_, _, _], _ => rfl
theorem c17 : DefC tb e17 := ⟨⟨⟨rfl, rfl, rfl, by decide +kernel, rfl, by decide +kernel, by decide +kernel⟩, rfl, rfl, by decide +kernel⟩⟩
theorem b17 : BdN e17 := fun _ _ _ _ _ _ us hl => match us, hl with | [_, _], _ => rfl
theorem c18 : DefC tb e18 := ⟨⟨⟨rfl, rfl, rfl, by decide +kernel, rfl, by decide +kernel, by decide +kernel⟩, rfl, rfl, by decide +kernel⟩⟩
theorem b18 : BdN e18 := fun _ _ _ _ _ _ us hl => match us, hl with | [_], _ => rfl
theorem c19 : DefC tb e19 := ⟨⟨⟨rfl, rfl, rfl, by decide +kernel, rfl, by decide +kernel, by decide +kernel⟩, rfl, rfl, by decide +kernel⟩⟩
theorem b19 : BdN e19 := fun _ _ _ _ _ _ us hl => match us, hl with | [_], _ => rfl
theorem c20 : DefC tb e20 := ⟨⟨⟨rfl, rfl, rfl, by decide +kernel, rfl, by decide +kernel, by decide +kernel⟩, rfl, rfl, by decide +kernel⟩⟩
theorem b20 : BdN e20 := fun _ _ _ _ _ _ us hl => match us, hl with | [_], _ => rfl
theorem c21 : DefC tb e21 := ⟨⟨⟨rfl, rfl, rfl, by decide +kernel, rfl, by decide +kernel, by decide +kernel⟩, rfl, rfl, by decide +kernel⟩⟩
theorem b21 : BdN e21 := fun _ _ _ _ _ _ us hl => match us, hl with | [_], _ => rfl
theorem c22 : DefC tb e22 := ⟨⟨⟨rfl, rfl, rfl, by decide +kernel, rfl, by decide +kernel, by decide +kernel⟩, rfl, rfl, by decide +kernel⟩⟩
theorem b22 : BdN e22 := fun _ _ _ _ _ _ us hl => match us, hl with | [_, _], _ => rfl
theorem c23 : DefC tb e23 := ⟨⟨⟨rfl, rfl, rfl, by decide +kernel, rfl, by decide +kernel, by decide +kernel⟩, rfl, rfl, by decide +kernel⟩⟩
theorem b23 : BdN e23 := fun _ _ _ _ _ _ us hl => match us, hl with | [_, _], _ => rfl
theorem c24 : DefC tb e24 := ⟨⟨⟨rfl, rfl, rfl, by decide +kernel, rfl, by decide +kernel, by decide +kernel⟩, rfl, rfl, by decide +kernel⟩⟩
theorem b24 : BdN e24 := fun _ _ _ _ _ _ us hl => match us, hl with | [_, _], _ => rfl
theorem c25 : DefC tb e25 := ⟨⟨⟨rfl, rfl, rfl, by decide +kernel, rfl, by decide +kernel, by decide +kernel⟩, rfl, rfl, by decide +kernel⟩⟩
theorem b25 : BdN e25 := fun _ _ _ _ _ _ us hl => match us, hl with | [_], _ => rfl
theorem c26 : DefC tb e26 := ⟨⟨⟨rfl, rfl, rfl, by decide +kernel, rfl, by decide +kernel, by decide +kernel⟩, rfl, rfl, by decide +kernel⟩⟩
theorem b26 : BdN e26 := fun _ _ _ _ _ _ us hl => match us, hl with | [_], _ => rfl
theorem c27 : DefC tb e27 := ⟨⟨⟨rfl, rfl, rfl, by decide +kernel, rfl, by decide +kernel, by decide +kernel⟩, rfl, rfl, by decide +kernel⟩⟩
theorem b27 : BdN e27 := fun _ _ _ _ _ _ us hl => match us, hl with | [_, _, _], _ => rfl
theorem c28 : DefC tb e28 := ⟨⟨⟨rfl, rfl, rfl, by decide +kernel, rfl, by decide +kernel, by decide +kernel⟩, rfl, rfl, by decide +kernel⟩⟩
theorem b28 : BdN e28 := fun _ _ _ _ _ _ us hl => match us, hl with | [_, _], _ => rfl
theorem c29 : DefC tb e29 := ⟨⟨⟨rfl, rfl, rfl, by decide +kernel, rfl, by decide +kernel, by decide +kernel⟩, rfl, rfl, by decide +kernel⟩⟩
theorem b29 : BdN e29 := fun _ _ _ _ _ _ us hl => match us, hl with | [_], _ => rfl
theorem c30 : DefC tb e30 := ⟨⟨⟨rfl, rfl, rfl, by decide +kernel, rfl, by decide +kernel, by decide +kernel⟩, rfl, rfl, by decide +kernel⟩⟩
theorem b30 : BdN e30 := fun _ _ _ _ _ _ us hl => match us, hl with | [_, _, _], _ => rfl
theorem c31 : DefC tb e31 := ⟨⟨⟨rfl, rfl, rfl, by decide +kernel, rfl, by decide +kernel, by decide +kernel⟩, rfl, rfl, by decide +kernel⟩⟩
theorem b31 : BdN e31 := fun _ _ _ _ _ _ us hl => match us, hl with | [_], _ => rfl
theorem c32 : DefC tb e32 := ⟨⟨⟨rfl, rfl, rfl, by decide +kernel, rfl, by decide +kernel, by decide +kernel⟩, rfl, rfl, by decide +kernel⟩⟩
theorem b32 : BdN e32 := fun _ _ _ _ _ _ us hl => match us, hl with | [_, _], _ => rfl
theorem c33 : DefC tb e33 := ⟨⟨⟨rfl, rfl, rfl, by decide +kernel, rfl, by decide +kernel, by decide +kernel⟩, rfl, rfl, by decide +kernel⟩⟩
theorem b33 : BdN e33 := fun _ _ _ _ _ _ us hl => match us, hl with | [_, _], _ => rfl
theorem c34 : DefC tb e34 := ⟨⟨⟨rfl, rfl, rfl, by decide +kernel, rfl, by decide +kernel, by decide +kernel⟩, rfl, rfl, by decide +kernel⟩⟩
theorem b34 : BdN e34 := fun _ _ _ _ _ _ us hl => match us, hl with | [_, _], _ => rfl
theorem c35 : DefC tb e35 := ⟨⟨⟨rfl, rfl, rfl, by decide +kernel, rfl, by decide +kernel, by decide +kernel⟩, rfl, rfl, by decide +kernel⟩⟩
theorem b35 : BdN e35 := fun _ _ _ _ _ _ us hl => match us, hl with | [_], _ => rfl
theorem c36 : DefC tb e36 := ⟨⟨⟨rfl, rfl, rfl, by decide +kernel, rfl, by decide +kernel, by decide +kernel⟩, rfl, rfl, by decide +kernel⟩⟩
theorem b36 : BdN e36 := fun _ _ _ _ _ _ us hl => match us, hl with | [_, _], _ => rfl
theorem c37 : DefC tb e37 := ⟨⟨⟨rfl, rfl, rfl, by decide +kernel, rfl, by decide +kernel, by decide +kernel⟩, rfl, rfl, by decide +kernel⟩⟩
theorem b37 : BdN e37 := fun _ _ _ _ _ _ us hl => match us, hl with | [_, _, _], _ => rfl
theorem c38 : DefC tb e38 := ⟨⟨⟨rfl, rfl, rfl, by decide +kernel, rfl, by decide +kernel, by decide +kernel⟩, rfl, rfl, by decide +kernel⟩⟩
theorem b38 : BdN e38 := fun _ _ _ _ _ _ us hl => match us, hl with | [_], _ => rfl
theorem c39 : DefC tb e39 := ⟨⟨⟨rfl, rfl, rfl, by decide +kernel, rfl, by decide +kernel, by decide +kernel⟩, rfl, rfl, by decide +kernel⟩⟩
theorem b39 : BdN e39 := fun _ _ _ _ _ _ us hl => match us, hl with | [_], _ => rfl
theorem c40 : DefC tb e40 := ⟨⟨⟨rfl, rfl, rfl, by decide +kernel, rfl, by decide +kernel, by decide +kernel⟩, rfl, rfl, by decide +kernel⟩⟩
theorem b40 : BdN e40 := fun _ _ _ _ _ _ us hl => match us, hl with | [], _ => rfl
theorem c41 : DefC tb e41 := ⟨⟨⟨rfl, rfl, rfl, by decide +kernel, rfl, by decide +kernel, by decide +kernel⟩, rfl, rfl, by decide +kernel⟩⟩
theorem b41 : BdN e41 := fun _ _ _ _ _ _ us hl => match us, hl with | [_], _ => rfl
theorem defC : ∀ D ∈ ds, DefC tb D := allC c0 <| allC c1 <| allC c2 <| allC c3 <| allC c4 <| allC c5 <| allC c6 <| allC c7 <| allC c8 <| allC c9 <| allC c10 <| allC c11 <| allC c12 <| allC c13 <| allC c14 <| allC c15 <| allC c16 <| allC c17 <| allC c18 <| allC c19 <| allC c20 <| allC c21 <| allC c22 <| allC c23 <| allC c24 <| allC c25 <| allC c26 <| allC c27 <| allC c28 <| allC c29 <| allC c30 <| allC c31 <| allC c32 <| allC c33 <| allC c34 <| allC c35 <| allC c36 <| allC c37 <| allC c38 <| allC c39 <| allC c40 <| allC c41 <| allN
theorem defK {K : PySem.W.Frag} (d0 : DK K e0) (d1 : DK K e1) (d2 : DK K e2) (d3 : DK K e3) (d4 : DK K e4) (d5 : DK K e5) (d6 : DK K e6) (d7 : DK K e7) (d8 : DK K e8) (d9 : DK K e9) (d10 : DK K e10) (d11 : DK K e11) (d12 : DK K e12) (d13 : DK K e13) (d14 : DK K e14) (d15 : DK K e15) (d16 : DK K e16) (d17 : DK K e17) (d18 : DK K e18) (d19 : DK K e19) (d20 : DK K e20) (d21 : DK K e21) (d22 : DK K e22) (d23 : DK K e23) (d24 : DK K e24) (d25 : DK K e25) (d26 : DK K e26) (d27 : DK K e27) (d28 : DK K e28) (d29 : DK K e29) (d30 : DK K e30) (d31 : DK K e31) (d32 : DK K e32) (d33 : DK K e33) (d34 : DK K e34) (d35 : DK K e35) (d36 : DK K e36) (d37 : DK K e37) (d38 : DK K e38) (d39 : DK K e39) (d40 : DK K e40) (d41 : DK K e41) : ∀ D ∈ ds, DK K D := allC (p := fun D => DK K D) d0 <| allC (p := fun D => DK K D) d1 <| allC (p := fun D => DK K D) d2 <| allC (p := fun D => DK K D) d3 <| allC (p := fun D => DK K D) d4 <| allC (p := fun D => DK K D) d5 <| allC (p := fun D => DK K D) d6 <| allC (p := fun D => DK K D) d7 <| allC (p := fun D => DK K D) d8 <| allC (p := fun D => DK K D) d9 <| allC (p := fun D => DK K D) d10 <| allC (p := fun D => DK K D) d11 <| allC (p := fun D => DK K D) d12 <| allC (p := fun D => DK K D) d13 <| allC (p := fun D => DK K D) d14 <| allC (p := fun D => DK K D) d15 <| allC (p := fun D => DK K D) d16 <| allC (p := fun D => DK K D) d17 <| allC (p := fun D => DK K D) d18 <| allC (p := fun D => DK K D) d19 <| allC (p := fun D => DK K D) d20 <| allC (p := fun D => DK K D) d21 <| allC (p := fun D => DK K D) d22 <| allC (p := fun D => DK K D) d23 <| allC (p := fun D => DK K D) d24 <| allC (p := fun D => DK K D) d25 <| allC (p := fun D => DK K D) d26 <| allC (p := fun D => DK K D) d27 <| allC (p := fun D => DK K D) d28 <| allC (p := fun D => DK K D) d29 <| allC (p := fun D => DK K D) d30 <| allC (p := fun D => DK K D) d31 <| allC (p := fun D => DK K D) d32 <| allC (p := fun D => DK K D) d33 <| allC (p := fun D => DK K D) d34 <| allC (p := fun D => DK K D) d35 <| allC (p := fun D => DK K D) d36 <| allC (p := fun D => DK K D) d37 <| allC (p := fun D => DK K D) d38 <| allC (p := fun D => DK K D) d39 <| allC (p := fun D => DK K D) d40 <| allC (p := fun D => DK K D) d41 <| allN
end Tx
namespace Tx.Pl
open PySem Mi
theorem SZ_eq : SZ = 16777216 := rfl
abbrev Cl (k i : Nat) (xs : List Vl) (h : Sh) : R Vl := callF (ΦT ds) (GT gs) 50000 k i xs h
def isInt : PyData → Bool
  | .int _ => true
  | _ => false
theorem p0 {k : Nat} (d : PyData) (h : Sh) : Cl (k + 1) 0 [.d d] h = .ok (.d (.bool (isInt d))) h := by cases d <;> rfl
def btw (lo hi : Int) : PyData → Bool
  | .int i => decide (lo ≤ i) && decide (i ≤ hi)
  | _ => false
theorem φ1 : ΦT ds 1 = some f1 := rfl
theorem p1 {k : Nat} (d : PyData) (lo hi : Int) (h : Sh) : Cl (k + 2) 1 [.d d, .d (.int lo), .d (.int hi)] h = .ok (.d (.bool (btw lo hi d))) h := by
  cases d with
  | int i =>
    rw [Cl, call_at φ1 rfl]
    show fin (evSs _ _ _ f1.body [.v (.d (.int i)), .v (.d (.int lo)), .v (.d (.int hi))] h) = _
    simp only [f1]
    simp only [evSs, evS, evE, evEs, evAnd, evOr, b_ok, b_no, b_ex, t_ok, t_bl, l_some, fin_rt, fin_nx, fin_ex, List.getElem?_cons_zero, List.getElem?_cons_succ, truV, truD, lift, cmpD, Option.map]
    by_cases h1 : lo ≤ i <;> by_cases h2 : i ≤ hi <;> simp [p0, isInt, btw, h1, h2, b_ok, fin_rt]
  | _ => rfl
/-! ### measured -/
def intOf : PyData → Int
  | .int i => i
  | _ => 0
theorem btw_int {lo hi : Int} {d : PyData} (h : btw lo hi d = true) : d = .int (intOf d) ∧ lo ≤ intOf d ∧ intOf d ≤ hi := by
  cases d <;> simp only [btw] at h <;> first | (cases h; done) | skip
  rw [Bool.and_eq_true, decide_eq_true_eq, decide_eq_true_eq] at h
  exact ⟨rfl, h.1, h.2⟩
def mxI : Int := 10 ^ 30
mutual
def meas : Nat → PyData → Option (Int × Int)
  | 0, _ => none
  | n + 1, d => if btw (0 - mxI) mxI d then some (1, 1) else match d with
    | .tuple [.str w, .tuple ps] => if w = ("seq" : Str) ∨ w = ("par" : Str) then (if ps.length > 400 then none else measL n ps 1 0) else none
    | .tuple [.str w, c, x] => if w = ("repeat" : Str) ∨ w = ("copies" : Str) then (if btw 0 mxI c then (match meas n x with
      | none => none
      | some (a, b) => if a = 400 ∨ intOf c * b > mxI then none else some (1 + a, intOf c * b)) else none) else none
    | _ => none
def measL : Nat → List PyData → Int → Int → Option (Int × Int)
  | _, [], a, b => some (a, b)
  | n, x :: xs, a, b => match meas n x with
    | none => none
    | some (p, q) => if a + p > 400 ∨ b + q > mxI then none else measL n xs (a + p) (b + q)
end
def encM : Option (Int × Int) → PyData
  | none => .none
  | some (a, b) => .tuple [.int a, .int b]
theorem φ2 : ΦT ds 2 = some f2 := rfl
theorem φ3 : ΦT ds 3 = some f3 := rfl
theorem φ4 : ΦT ds 4 = some f4 := rfl
theorem g0 : GT gs 0 = some (.int 1000000000000000000000000000000) := rfl
theorem g1 : GT gs 1 = some (.int 1000000000000000000000000000000) := rfl
theorem g2 : GT gs 2 = some (.int 400) := rfl
theorem g3 : GT gs 3 = some (.int 400) := rfl
theorem g5 : GT gs 5 = some (.tuple [.str "seq", .str "par"]) := rfl
theorem g6 : GT gs 6 = some (.tuple [.str "repeat", .str "copies"]) := rfl
theorem mx : mxI = 1000000000000000000000000000000 := by decide +kernel
/-- what a result of meas keeps -/
def MB : Option (Int × Int) → Prop
  | none => True
  | some (a, b) => 1 ≤ a ∧ a ≤ 401 ∧ 0 ≤ b ∧ b ≤ mxI
section
variable {k n : Nat}
def body4 : List Ts := [.asg (.n 5) (.call 2 [.var 2, .bin .Sub (.var 1) (.cst (.int 1))]), .iff (.cmp .Is (.var 5) (.cst .none)) [.ret (.cst .none)] [], .par [3, 4] [.e (.bin .Add (.var 3) (.ix (.var 5) (.cst (.int 0)))), .e (.bin .Add (.var 4) (.ix (.var 5) (.cst (.int 1))))], .iff (.or [.cmp .Gt (.var 3) (.glob 3), .cmp .Gt (.var 4) (.glob 1)]) [.ret (.cst .none)] []]
theorem sub1 (n : Nat) : ((n : Int) + 1) - 1 = n := by omega
theorem turn4 {K : Nat} {x p : PyData} {a b : Int} {s5 : Sl} {h : Sh} (hx : Cl K 2 [.d x, .d (.int n)] h = .ok (.d (encM (meas n x))) h) :
    evSs (callF (ΦT ds) (GT gs) 50000 K) (GT gs) 50000 body4 [.v (.d p), .v (.d (.int (n + 1))), .v (.d x), .v (.d (.int a)), .v (.d (.int b)), s5] h =
      match meas n x with
      | none => .ok (.rt (.d .none)) h
      | some (q, r) => if a + q > 400 ∨ b + r > mxI then .ok (.rt (.d .none)) h else .ok (.nx [.v (.d p), .v (.d (.int (n + 1))), .v (.d x), .v (.d (.int (a + q))), .v (.d (.int (b + r))), .v (.d (encM (some (q, r))))]) h := by
  have e1 : evE (callF (ΦT ds) (GT gs) 50000 K) (GT gs) (.call 2 [.var 2, .bin .Sub (.var 1) (.cst (.int 1))]) [.v (.d p), .v (.d (.int (n + 1))), .v (.d x), .v (.d (.int a)), .v (.d (.int b)), s5] h = .ok (.d (encM (meas n x))) h := by
    refine (e_call rfl).trans ?_
    rw [sub1]
    exact hx
  unfold body4
  refine (s_asg e1 rfl).trans ?_
  cases q : meas n x with
  | none => exact s_ifT rfl (s_ret rfl)
  | some p =>
    obtain ⟨q1, q2⟩ := p
    refine (s_ifF rfl).trans ((s_par rfl rfl).trans ?_)
    rw [mx]
    have test : tru (evE (callF (ΦT ds) (GT gs) 50000 K) (GT gs) (.or [.cmp .Gt (.var 3) (.glob 3), .cmp .Gt (.var 4) (.glob 1)]) [.v (.d p), .v (.d (.int (n + 1))), .v (.d x), .v (.d (.int (a + q1))), .v (.d (.int (b + q2))), .v (.d (encM (some (q1, q2))))] h) = .ok (decide (400 < a + q1) || decide (1000000000000000000000000000000 < b + q2)) h :=
      t_or (t_cmp rfl rfl rfl) fun _ => t_or1.trans (t_cmp rfl rfl rfl)
    dsimp only
    by_cases c : a + q1 > 400 ∨ b + q2 > 1000000000000000000000000000000
    · rw [if_pos c]
      refine s_ifT (h1 := h) (test.trans ?_) (s_ret rfl)
      rw [← Bool.decide_or, decide_eq_true c]
    · rw [if_neg c]
      refine s_ifF (h1 := h) (test.trans ?_)
      rw [← Bool.decide_or, decide_eq_false c]
theorem loop4 {K : Nat} {p : PyData} {h : Sh} : ∀ (xs : List PyData) (a b : Int) (s2 s5 : Sl), (∀ x ∈ xs, Cl K 2 [.d x, .d (.int n)] h = .ok (.d (encM (meas n x))) h) →
    (match measL n xs a b with
    | none => forLoop (evSs (callF (ΦT ds) (GT gs) 50000 K) (GT gs) 50000 body4) (.n 2) (xs.map .d) [.v (.d p), .v (.d (.int (n + 1))), s2, .v (.d (.int a)), .v (.d (.int b)), s5] h = .ok (.rt (.d .none)) h
    | some (a', b') => ∃ s2' s5', forLoop (evSs (callF (ΦT ds) (GT gs) 50000 K) (GT gs) 50000 body4) (.n 2) (xs.map .d) [.v (.d p), .v (.d (.int (n + 1))), s2, .v (.d (.int a)), .v (.d (.int b)), s5] h = .ok (.nx [.v (.d p), .v (.d (.int (n + 1))), s2', .v (.d (.int a')), .v (.d (.int b')), s5']) h)
  | [], a, b, s2, s5, _ => by
    rw [measL]
    exact ⟨s2, s5, rfl⟩
  | x :: xs, a, b, s2, s5, hx => by
    have t := turn4 (p := p) (a := a) (b := b) (s5 := s5) (hx x List.mem_cons_self)
    have fc : forLoop (evSs (callF (ΦT ds) (GT gs) 50000 K) (GT gs) 50000 body4) (.n 2) ((x :: xs).map .d) [.v (.d p), .v (.d (.int (n + 1))), s2, .v (.d (.int a)), .v (.d (.int b)), s5] h = _ := fl_cons rfl
    rw [measL]
    cases q : meas n x with
    | none =>
      rw [q] at t
      dsimp only at t ⊢
      rw [fc]
      show R.bind (evSs (callF (ΦT ds) (GT gs) 50000 K) (GT gs) 50000 body4 [.v (.d p), .v (.d (.int (n + 1))), .v (.d x), .v (.d (.int a)), .v (.d (.int b)), s5] h) _ = _
      rw [t]
      rfl
    | some r =>
      obtain ⟨q1, q2⟩ := r
      rw [q] at t
      dsimp only at t ⊢
      by_cases c : a + q1 > 400 ∨ b + q2 > mxI
      · rw [if_pos c] at t ⊢
        dsimp only
        rw [fc]
        show R.bind (evSs (callF (ΦT ds) (GT gs) 50000 K) (GT gs) 50000 body4 [.v (.d p), .v (.d (.int (n + 1))), .v (.d x), .v (.d (.int a)), .v (.d (.int b)), s5] h) _ = _
        rw [t]
        rfl
      · rw [if_neg c] at t ⊢
        have ih := loop4 (p := p) xs (a + q1) (b + q2) (.v (.d x)) (.v (.d (encM (some (q1, q2))))) fun y m => hx y (List.mem_cons_of_mem _ m)
        have step : forLoop (evSs (callF (ΦT ds) (GT gs) 50000 K) (GT gs) 50000 body4) (.n 2) ((x :: xs).map .d) [.v (.d p), .v (.d (.int (n + 1))), s2, .v (.d (.int a)), .v (.d (.int b)), s5] h =
            forLoop (evSs (callF (ΦT ds) (GT gs) 50000 K) (GT gs) 50000 body4) (.n 2) (xs.map .d) [.v (.d p), .v (.d (.int (n + 1))), .v (.d x), .v (.d (.int (a + q1))), .v (.d (.int (b + q2))), .v (.d (encM (some (q1, q2))))] h := by
          rw [fc]
          show R.bind (evSs (callF (ΦT ds) (GT gs) 50000 K) (GT gs) 50000 body4 [.v (.d p), .v (.d (.int (n + 1))), .v (.d x), .v (.d (.int a)), .v (.d (.int b)), s5] h) _ = _
          rw [t]
          rfl
        rw [step]
        exact ih
def MOk (r : Option (Int × Int)) : Prop := ∀ a b, r = some (a, b) → 1 ≤ a ∧ a ≤ 400 ∧ 0 ≤ b ∧ b ≤ mxI
mutual
theorem meas_ok : ∀ (n : Nat) (d : PyData), MOk (meas n d)
  | 0, d => fun a b e => by rw [meas] at e; cases e
  | n + 1, d => fun a b e => by
    unfold meas at e
    split at e
    · cases e
      exact ⟨by decide, by decide, by decide, by rw [mx]; decide⟩
    · split at e
      · split at e
        · split at e
          · cases e
          · exact measL_ok n _ 1 0 ⟨by decide, by decide, by decide, by rw [mx]; decide⟩ a b e
        · cases e
      · split at e
        · split at e
          · rename_i hb
            obtain ⟨_, hb1, hb2⟩ := btw_int hb
            split at e
            · cases e
            · rename_i a' b' em
              obtain ⟨h1, h2, h3, h4⟩ := meas_ok n _ _ _ em
              split at e
              · cases e
              · rename_i hc
                cases e
                have hz := Int.mul_nonneg hb1 h3
                rw [not_or] at hc
                exact ⟨by omega, by omega, hz, by omega⟩
          · cases e
        · cases e
      · cases e
theorem measL_ok : ∀ (n : Nat) (xs : List PyData) (a b : Int), (1 ≤ a ∧ a ≤ 400 ∧ 0 ≤ b ∧ b ≤ mxI) → MOk (measL n xs a b)
  | _, [], a, b, hh => fun x y e => by
    rw [measL] at e
    cases e
    exact hh
  | n, x :: xs, a, b, hh => fun u v e => by
    rw [measL] at e
    split at e
    · cases e
    · rename_i p q em
      obtain ⟨h1, h2, h3, h4⟩ := meas_ok n x _ _ em
      split at e
      · cases e
      · rename_i hc
        rw [not_or] at hc
        exact measL_ok n xs _ _ ⟨by omega, by omega, by omega, by omega⟩ u v e
end
abbrev Cf (K : Nat) : Mi.Cf := callF (ΦT ds) (GT gs) 50000 K
abbrev Ev (K : Nat) := evE (Cf K) (GT gs)
theorem meas_other {n : Nat} {d : PyData} (hb : btw (0 - mxI) mxI d = false) (h : ∀ w r, d ≠ .tuple (.str w :: r)) : meas (n + 1) d = none := by
  unfold meas
  rw [hb, if_neg Bool.false_ne_true]
  split
  · exact (h _ _ rfl).elim
  · exact (h _ _ rfl).elim
  · rfl
theorem cmp_in {K : Nat} {env : En} {h : Sh} {a : Te} {w : Str} {g : Nat} {ys : List Str} (e1 : Ev K a env h = .ok (.d (.str w)) h) (e2 : GT gs g = some (.tuple (ys.map .str))) : tru (Ev K (.cmp .In a (.glob g)) env h) = .ok (decide (w ∈ ys)) h :=
  t_cmp e1 (e_glob e2) (cmp_inT.trans in_str)
/-- the parts, once measured is known a level below -/
theorem p4' {n K : Nat} {d : PyData} {h : Sh} (hx : ∀ x, Cl K 2 [.d x, .d (.int n)] h = .ok (.d (encM (meas n x))) h) :
    Cl (K + 1) 3 [.d d, .d (.int ((n + 1 : Nat) : Int))] h = .ok (.d (encM (match d with
      | .tuple ps => if ps.length > 400 then none else measL n ps 1 0
      | _ => none))) h := by
  rw [Cl, call_at φ3 rfl]
  refine fin_end ?_
  cases d with
  | tuple ps =>
    have tl : tru (Ev K (.cmp .Gt (.bi .len [.var 0]) (.glob 2)) [.v (.d (.tuple ps)), .v (.d (.int ((n + 1 : Nat) : Int))), .no, .no, .no, .no] h) = .ok (decide ((400 : Int) < ps.length)) h := t_cmp rfl (e_glob g2) rfl
    dsimp only
    by_cases c : ps.length > 400
    · rw [if_pos c]
      exact s_ifT (h1 := h) ((t_orF (t_nF (t_b rfl))).trans (t_or1.trans (tl.trans (by rw [decide_eq_true (by omega)])))) (s_ret rfl)
    · rw [if_neg c]
      refine (s_ifF (h1 := h) ((t_orF (t_nF (t_b rfl))).trans (t_or1.trans (tl.trans (by rw [decide_eq_false (by omega)]))))).trans ((s_asg rfl rfl).trans ?_)
      have lp := loop4 (p := .tuple ps) (h := h) (n := n) (K := K) ps 1 0 .no .no fun x _ => hx x
      cases q : measL n ps 1 0 with
      | none =>
        rw [q] at lp
        exact s_forR rfl rfl lp
      | some r =>
        obtain ⟨a, b⟩ := r
        rw [q] at lp
        obtain ⟨s2, s5, lp⟩ := lp
        exact (s_for rfl rfl lp).trans (s_ret rfl)
  | _ => exact s_ifT (h1 := h) (t_orT (t_nT (t_b rfl))) (s_ret rfl)
theorem lim_ok {i : Int} (h0 : 0 ≤ i) (h : i ≤ mxI) : okI i = true := by
  unfold okI
  refine decide_eq_true ?_
  have h2 : mxI.natAbs < LIM := by rw [mx]; unfold LIM; decide +kernel
  have h3 : i.natAbs ≤ mxI.natAbs := by omega
  omega
theorem p5' {n K : Nat} {c x : PyData} {h : Sh} (hx : Cl (K + 2) 2 [.d x, .d (.int n)] h = .ok (.d (encM (meas n x))) h) :
    Cl (K + 3) 4 [.d c, .d x, .d (.int ((n + 1 : Nat) : Int))] h = .ok (.d (encM (if btw 0 mxI c then (match meas n x with
      | none => none
      | some (a, b) => if a = 400 ∨ intOf c * b > mxI then none else some (1 + a, intOf c * b)) else none))) h := by
  rw [Cl, call_at φ4 rfl]
  refine fin_end ?_
  have tb : tru (Ev (K + 2) (.call 1 [.var 0, .cst (.int 0), .glob 1]) [.v (.d c), .v (.d x), .v (.d (.int ((n + 1 : Nat) : Int))), .no] h) = .ok (btw 0 mxI c) h := by
    refine t_b ((e_call rfl).trans ?_)
    rw [mx]
    exact p1 (k := K) c _ _ h
  cases hb : btw 0 mxI c with
  | false =>
    rw [hb] at tb
    exact s_ifT (t_nT tb) (s_ret rfl)
  | true =>
    rw [hb] at tb
    obtain ⟨ec, c0, c1⟩ := btw_int hb
    have e1 : Ev (K + 2) (.call 2 [.var 1, .bin .Sub (.var 2) (.cst (.int 1))]) [.v (.d c), .v (.d x), .v (.d (.int ((n + 1 : Nat) : Int))), .no] h = .ok (.d (encM (meas n x))) h := by
      refine (e_call rfl).trans ?_
      have : ((n + 1 : Nat) : Int) - 1 = n := by omega
      rw [this]
      exact hx
    refine (s_ifF (t_nF tb)).trans ((s_asg e1 rfl).trans ?_)
    rw [if_pos rfl]
    cases q : meas n x with
    | none => exact s_ifT (t_orT (t_cmp rfl rfl rfl)) (s_ret rfl)
    | some r =>
      obtain ⟨a, b⟩ := r
      obtain ⟨h1, h2, h3, h4⟩ := meas_ok n x a b q
      have env : ∃ E : En, E = [.v (.d (.int (intOf c))), .v (.d x), .v (.d (.int ((n + 1 : Nat) : Int))), .v (.d (.tuple [.int a, .int b]))] := ⟨_, rfl⟩
      have ee : ([.v (.d c), .v (.d x), .v (.d (.int ((n + 1 : Nat) : Int))), .no] : En).set 3 (.v (.d (encM (some (a, b))))) = [.v (.d (.int (intOf c))), .v (.d x), .v (.d (.int ((n + 1 : Nat) : Int))), .v (.d (.tuple [.int a, .int b]))] := by rw [← ec]; rfl
      rw [ee]
      have mul : Ev (K + 2) (.bin .Mult (.var 0) (.ix (.var 3) (.cst (.int 1)))) [.v (.d (.int (intOf c))), .v (.d x), .v (.d (.int ((n + 1 : Nat) : Int))), .v (.d (.tuple [.int a, .int b]))] h = .ok (.d (.int (intOf c * b))) h := by
        refine e_bin rfl rfl ?_
        show (if okI (intOf c) && okI b then some (PyData.int (intOf c * b)) else none) = _
        rw [lim_ok c0 c1, lim_ok h3 h4]
        rfl
      have test : tru (Ev (K + 2) (.or [.cmp .Is (.var 3) (.cst .none), .cmp .Eq (.ix (.var 3) (.cst (.int 0))) (.glob 3), .cmp .Gt (.bin .Mult (.var 0) (.ix (.var 3) (.cst (.int 1)))) (.glob 1)]) [.v (.d (.int (intOf c))), .v (.d x), .v (.d (.int ((n + 1 : Nat) : Int))), .v (.d (.tuple [.int a, .int b]))] h) = .ok (decide (a = 400) || decide (mxI < intOf c * b)) h := by
        refine (t_orF (t_cmp rfl rfl rfl)).trans (t_or (t_cmp rfl (e_glob g3) (cmp_eq.trans eq_int)) fun _ => t_or1.trans (t_cmp mul (e_glob g1) ?_))
        rw [mx]; rfl
      rw [← Bool.decide_or] at test
      dsimp only
      by_cases cc : a = 400 ∨ intOf c * b > mxI
      · rw [if_pos cc]
        exact s_ifT (test.trans (by rw [decide_eq_true (show a = 400 ∨ mxI < intOf c * b from cc)])) (s_ret rfl)
      · rw [if_neg cc]
        refine (s_ifF (test.trans (by rw [decide_eq_false (show ¬ (a = 400 ∨ mxI < intOf c * b) from cc)]))).trans (s_ret ?_)
        exact e_tup (es_cons rfl (es_cons mul es_nil)) rfl (by show 2 ≤ SZ; decide)
theorem p2 : ∀ (n : Nat) (d : PyData) (k : Nat) (h : Sh), Cl (k + 2 * n + 3) 2 [.d d, .d (.int n)] h = .ok (.d (encM (meas n d))) h
  | 0, d, k, h => by
    rw [Cl, call_at φ2 rfl]
    refine fin_end (s_ifT (h1 := h) (t_cmp rfl rfl rfl) ((s_ret rfl).trans ?_))
    unfold meas
    rfl
  | n + 1, d, k, h => by
    rw [Cl, call_at φ2 rfl]
    refine fin_end ?_
    have eK : k + 2 * (n + 1) + 2 = (k + 2 * n + 3) + 1 := by omega
    show evSs (Cf (k + 2 * (n + 1) + 2)) (GT gs) 50000 f2.body [.v (.d d), .v (.d (.int ((n + 1 : Nat) : Int)))] h = _
    rw [eK]
    have z0 : decide (((n + 1 : Nat) : Int) = 0) = false := decide_eq_false (by omega)
    refine (s_ifF (h1 := h) (t_cmp rfl rfl (cmp_eq.trans (eq_int.trans (by rw [z0]))))).trans ?_
    have tb : tru (Ev (k + 2 * n + 3 + 1) (.call 1 [.var 0, .bin .Sub (.cst (.int 0)) (.glob 0), .glob 0]) [.v (.d d), .v (.d (.int ((n + 1 : Nat) : Int)))] h) = .ok (btw (0 - mxI) mxI d) h := by
      refine t_b ((e_call rfl).trans ?_)
      rw [mx]
      exact p1 (k := k + 2 * n + 2) d _ _ h
    cases hb : btw (0 - mxI) mxI d with
    | true =>
      rw [hb] at tb
      refine s_ifT tb ((s_ret rfl).trans ?_)
      unfold meas
      rw [hb]
      rfl
    | false =>
      rw [hb] at tb
      refine (s_ifF tb).trans ?_
      have other : (∀ w r, d ≠ .tuple (.str w :: r)) → tru (Ev (k + 2 * n + 3 + 1) (.or [.not (.isi (.var 0) [.tuple]), .cmp .Eq (.var 0) (.tup []), .not (.isi (.ix (.var 0) (.cst (.int 0))) [.str])]) [.v (.d d), .v (.d (.int ((n + 1 : Nat) : Int)))] h) = .ok true h := fun hn => by
        cases d with
        | tuple xs =>
          refine (t_orF (h1 := h) (t_nF (t_b rfl))).trans ?_
          cases xs with
          | nil => exact t_orT (t_cmp rfl rfl rfl)
          | cons x xs =>
            refine (t_orF (h1 := h) (t_cmp rfl rfl rfl)).trans (t_or1.trans ?_)
            cases x with
            | str w => exact (hn w xs rfl).elim
            | _ => exact t_nT (t_isi (e_ix rfl rfl ix_0) rfl)
        | _ => exact t_orT (t_nT (t_b rfl))
      by_cases hd : ∃ w r, d = .tuple (.str w :: r)
      · obtain ⟨w, r, rfl⟩ := hd
        have first : Ev (k + 2 * n + 3 + 1) (.ix (.var 0) (.cst (.int 0))) [.v (.d (.tuple (.str w :: r))), .v (.d (.int ((n + 1 : Nat) : Int)))] h = .ok (.d (.str w)) h := e_ix rfl rfl ix_0
        refine (s_ifF (h1 := h) ((t_orF (t_nF (t_b rfl))).trans ((t_orF (t_cmp rfl rfl rfl)).trans (t_or1.trans (t_nF (t_isi first rfl)))))).trans ?_
        have len : ∀ m : Nat, tru (Ev (k + 2 * n + 3 + 1) (.cmp .Eq (.bi .len [.var 0]) (.cst (.int m))) [.v (.d (.tuple (.str w :: r))), .v (.d (.int ((n + 1 : Nat) : Int)))] h) = .ok (decide ((PyData.str w :: r).length = m)) h := fun m => t_cmp rfl rfl (cmp_eq.trans len_eq)
        have t4 : tru (Ev (k + 2 * n + 3 + 1) (.and [.cmp .In (.ix (.var 0) (.cst (.int 0))) (.glob 5), .cmp .Eq (.bi .len [.var 0]) (.cst (.int 2))]) [.v (.d (.tuple (.str w :: r))), .v (.d (.int ((n + 1 : Nat) : Int)))] h) = .ok (decide (w ∈ [("seq" : Str), "par"]) && decide ((PyData.str w :: r).length = 2)) h :=
          t_and (cmp_in first g5) fun _ => t_and1.trans (len 2)
        have t5 : tru (Ev (k + 2 * n + 3 + 1) (.and [.cmp .In (.ix (.var 0) (.cst (.int 0))) (.glob 6), .cmp .Eq (.bi .len [.var 0]) (.cst (.int 3))]) [.v (.d (.tuple (.str w :: r))), .v (.d (.int ((n + 1 : Nat) : Int)))] h) = .ok (decide (w ∈ [("repeat" : Str), "copies"]) && decide ((PyData.str w :: r).length = 3)) h :=
          t_and (cmp_in first g6) fun _ => t_and1.trans (len 3)
        have r4 := fun d => p4' (n := n) (K := k + 2 * n + 3) (d := d) (h := h) fun x => p2 n x k h
        have r5 := fun c x => p5' (n := n) (K := k + 2 * n + 1) (c := c) (x := x) (h := h) (p2 n x k h)
        by_cases m4 : w ∈ [("seq" : Str), "par"] ∧ (PyData.str w :: r).length = 2
        · rw [decide_eq_true m4.1, decide_eq_true m4.2] at t4
          obtain ⟨y, rfl⟩ : ∃ y, r = [y] := by
            rcases r with _ | ⟨y, _ | ⟨z, q⟩⟩
            · cases m4.2
            · exact ⟨y, rfl⟩
            · cases m4.2
          refine s_ifT t4 (s_ret ((e_call (es_cons (e_ix rfl rfl ix_1) (es_cons rfl es_nil))).trans ((r4 y).trans ?_)))
          have mw : w = ("seq" : Str) ∨ w = ("par" : Str) := by simpa using m4.1
          unfold meas
          rw [hb, if_neg Bool.false_ne_true]
          cases y with
          | tuple ps => dsimp only; rw [if_pos mw]
          | _ => rfl
        · refine (s_ifF (t4.trans (by rw [← Bool.decide_and, decide_eq_false m4]))).trans ?_
          by_cases m5 : w ∈ [("repeat" : Str), "copies"] ∧ (PyData.str w :: r).length = 3
          · rw [decide_eq_true m5.1, decide_eq_true m5.2] at t5
            obtain ⟨c, x, rfl⟩ : ∃ c x, r = [c, x] := by
              rcases r with _ | ⟨y, _ | ⟨z, _ | ⟨u, q⟩⟩⟩
              · cases m5.2
              · cases m5.2
              · exact ⟨y, z, rfl⟩
              · cases m5.2
            refine s_ifT t5 (s_ret ((e_call (es_cons (e_ix rfl rfl ix_1) (es_cons (e_ix rfl rfl ix_2) (es_cons rfl es_nil)))).trans ((r5 c x).trans ?_)))
            have mw : w = ("repeat" : Str) ∨ w = ("copies" : Str) := by simpa using m5.1
            have em : meas (n + 1) (.tuple [.str w, c, x]) = (if btw 0 mxI c then (match meas n x with
              | none => none
              | some (a, b) => if a = 400 ∨ intOf c * b > mxI then none else some (1 + a, intOf c * b)) else none) := by
              rw [meas.eq_def]
              dsimp only
              rw [hb, if_neg Bool.false_ne_true]
              cases c <;> exact if_pos mw
            rw [em]
          · refine (s_ifF (t5.trans (by rw [← Bool.decide_and, decide_eq_false m5]))).trans (s_ret ?_)
            have e : meas (n + 1) (.tuple (.str w :: r)) = none := by
              unfold meas
              rw [hb, if_neg Bool.false_ne_true]
              split
              · rename_i w' ps hq
                cases hq
                rw [if_neg fun z => m4 ⟨by simpa using z, rfl⟩]
              · rename_i w' c x hq
                cases hq
                rw [if_neg fun z => m5 ⟨by simpa using z, rfl⟩]
              · rfl
            rw [e]
            rfl
      · have hn : ∀ w r, d ≠ .tuple (.str w :: r) := fun w r e => hd ⟨w, r, e⟩
        refine s_ifT (other hn) ((s_ret rfl).trans ?_)
        rw [meas_other hb hn]
        rfl
end
theorem e_peek {C : Mi.Cf} {G : Nat → Option PyData} {env : En} {h : Sh} {i : Nat} {xs : List PyData} (e : env[i]? = some (.own xs)) : evE C G (.peek i) env h = .ok (.d (.list xs)) h := by rw [evE, e]
end Tx.Pl
namespace Tx.Pl
open PySem Mi
inductive Jb where
  | st (i : Int)
  | gr (w : Str) (ps : List Jb)
  | ml (w : Str) (c : Int) (j : Jb)
mutual
def enc : Jb → PyData
  | .st i => .int i
  | .gr w ps => .tuple [.str w, .tuple (encs ps)]
  | .ml w c j => .tuple [.str w, .int c, enc j]
def encs : List Jb → List PyData
  | [] => []
  | j :: r => enc j :: encs r
end
mutual
/-- nodes -/
def jn : Jb → Nat
  | .st _ => 1
  | .gr _ ps => 1 + jns ps
  | .ml _ _ j => 1 + jn j
def jns : List Jb → Nat
  | [] => 0
  | j :: r => jn j + jns r
/-- steps, at most -/
def js : Jb → Int
  | .st _ => 1
  | .gr _ ps => jss ps
  | .ml _ c j => (if c < 1 then 1 else c) * js j
def jss : List Jb → Int
  | [] => 0
  | j :: r => js j + jss r
end
theorem encs_map : ∀ ps : List Jb, encs ps = ps.map enc
  | [] => by rw [encs]; rfl
  | j :: r => by rw [encs, encs_map r]; rfl
theorem encs_len (ps : List Jb) : (encs ps).length = ps.length := by rw [encs_map, List.length_map]
def isG (w : Str) : Prop := w = ("seq" : Str) ∨ w = ("par" : Str)
def isM (w : Str) : Prop := w = ("repeat" : Str) ∨ w = ("copies" : Str)
/-- jobs of n levels at most, within the bounds of parts, steps and counts -/
def JW : Nat → Jb → Prop
  | 0, _ => False
  | _ + 1, .st i => -mxI ≤ i ∧ i ≤ mxI
  | n + 1, .gr w ps => isG w ∧ ps.length ≤ 400 ∧ ∀ p ∈ ps, JW n p
  | n + 1, .ml w c j => isM w ∧ (0 ≤ c ∧ c ≤ mxI) ∧ JW n j
theorem jn_pos : ∀ j : Jb, 1 ≤ jn j := fun j => by cases j <;> rw [jn] <;> omega
theorem JW.mono : ∀ {n m : Nat} {j : Jb}, JW n j → n ≤ m → JW m j
  | 0, _, j, h, _ => by rw [JW] at h; exact h.elim
  | n + 1, 0, j, h, l => absurd l (by omega)
  | n + 1, m + 1, .st i, h, l => by rw [JW] at h ⊢; exact h
  | n + 1, m + 1, .gr w ps, h, l => by rw [JW] at h ⊢; exact ⟨h.1, h.2.1, fun p mm => (h.2.2 p mm).mono (by omega)⟩
  | n + 1, m + 1, .ml w c j, h, l => by rw [JW] at h ⊢; exact ⟨h.1, h.2.1, h.2.2.mono (by omega)⟩
mutual
theorem meas_enc : ∀ (n : Nat) (d : PyData) (a b : Int), meas n d = some (a, b) → ∃ j, d = enc j ∧ JW n j ∧ a = jn j ∧ a ≤ 400
  | 0, d, a, b, h => by rw [meas] at h; cases h
  | n + 1, d, a, b, h => by
    unfold meas at h
    by_cases c : btw (0 - mxI) mxI d = true
    · rw [if_pos c] at h
      cases h
      obtain ⟨e, l1, l2⟩ := btw_int c
      exact ⟨.st (intOf d), by rw [enc]; exact e, by rw [JW]; omega, by rw [jn]; rfl, by decide⟩
    · rw [if_neg c] at h
      split at h
      · rename_i w ps
        split at h
        · rename_i hw
          split at h
          · cases h
          · rename_i hl
            obtain ⟨js', e, hj, ha, h4⟩ := measL_enc n ps 1 0 a b h
            refine ⟨.gr w js', by rw [enc, e], by rw [JW]; exact ⟨hw, by rw [e, encs_len] at hl; omega, hj⟩, by rw [jn, ha]; omega, h4 (by decide)⟩
        · cases h
      · rename_i w c' x
        split at h
        · rename_i hw
          split at h
          · rename_i hc
            split at h
            · cases h
            · rename_i p q hm
              split at h
              · cases h
              · rename_i hn
                cases h
                obtain ⟨j, e, hj, ha, h4⟩ := meas_enc n x p q hm
                obtain ⟨e1, l1, l2⟩ := btw_int hc
                refine ⟨.ml w (intOf c') j, by rw [enc, e, ← e1], by rw [JW]; exact ⟨hw, ⟨l1, l2⟩, hj⟩, by rw [jn, ha]; omega, by omega⟩
          · cases h
        · cases h
      · cases h
theorem measL_enc : ∀ (n : Nat) (xs : List PyData) (a0 b0 a b : Int), measL n xs a0 b0 = some (a, b) → ∃ l, xs = encs l ∧ (∀ j ∈ l, JW n j) ∧ a = a0 + jns l ∧ (a0 ≤ 400 → a ≤ 400)
  | n, [], a0, b0, a, b, h => by
    rw [measL] at h
    cases h
    exact ⟨[], by rw [encs], fun j m => (List.not_mem_nil m).elim, by rw [jns]; omega, fun h => h⟩
  | n, x :: xs, a0, b0, a, b, h => by
    rw [measL] at h
    split at h
    · cases h
    · rename_i p q hm
      split at h
      · cases h
      · rename_i hc
        obtain ⟨j, e, hj, ha, h4⟩ := meas_enc n x p q hm
        obtain ⟨l, e2, hl, ha2, h5⟩ := measL_enc n xs _ _ a b h
        refine ⟨j :: l, by rw [encs, e, e2], fun i m => ?_, by rw [jns, ha2, ha]; omega, fun _ => h5 (by omega)⟩
        rcases List.mem_cons.mp m with rfl | m
        · exact hj
        · exact hl i m
end
/-- what a job is, of data -/
theorem isjob_enc {d : PyData} (h : (meas 13 d).isSome = true) : ∃ j, d = enc j ∧ JW 13 j ∧ jn j ≤ 400 := by
  cases e : meas 13 d with
  | none => rw [e] at h; cases h
  | some r =>
    obtain ⟨j, e1, e2, e3, e4⟩ := meas_enc 13 d r.1 r.2 e
    exact ⟨j, e1, e2, by omega⟩
/-! ### jobs that are made -/
theorem btw_t {lo hi i : Int} (h : lo ≤ i) (g : i ≤ hi) : btw lo hi (.int i) = true := by
  rw [btw, decide_eq_true h, decide_eq_true g]; rfl
mutual
theorem js_nn : ∀ (j : Jb), 0 ≤ js j
  | .st i => by rw [js]; decide
  | .gr w ps => by
    rw [js]
    exact jss_nn ps
  | .ml w c j => by
    rw [js]
    exact Int.mul_nonneg (by split <;> omega) (js_nn j)
theorem jss_nn : ∀ (ps : List Jb), 0 ≤ jss ps
  | [] => by rw [jss]; decide
  | p :: ps => by
    have a := js_nn p
    have b := jss_nn ps
    rw [jss]
    omega
end
mutual
theorem meas_of : ∀ (n : Nat) (j : Jb), JW n j → jn j ≤ 400 → js j ≤ mxI → ∃ b, meas n (enc j) = some ((jn j : Int), b) ∧ 0 ≤ b ∧ b ≤ js j
  | 0, j, h, _, _ => by rw [JW] at h; exact h.elim
  | n + 1, .st i, h, l1, l2 => by
    rw [JW] at h
    refine ⟨1, ?_, by decide, by rw [js]; decide⟩
    rw [enc]
    unfold meas
    rw [btw_t (by omega) h.2, jn]
    rfl
  | n + 1, .gr w ps, h, l1, l2 => by
    rw [JW] at h
    rw [jn] at l1
    rw [js] at l2
    obtain ⟨b, q, b0, b1⟩ := measL_of n ps 1 0 h.2.2 (by omega) (by omega) (by decide) (by decide)
    refine ⟨b, ?_, b0, by rw [js]; omega⟩
    rw [enc, meas.eq_def]
    dsimp only
    rw [show btw (0 - mxI) mxI (.tuple [.str w, .tuple (encs ps)]) = false from rfl, if_neg Bool.false_ne_true, if_pos (show w = ("seq" : Str) ∨ w = ("par" : Str) from h.1), if_neg (by rw [encs_len]; have := h.2.1; omega), q, jn]
    congr 2
  | n + 1, .ml w c j, h, l1, l2 => by
    rw [JW] at h
    rw [jn] at l1
    rw [js] at l2
    have nn := js_nn j
    have c0 := h.2.1
    have k1 : 1 * js j ≤ (if c < 1 then 1 else c) * js j := Int.mul_le_mul_of_nonneg_right (by split <;> omega) nn
    obtain ⟨b, q, b0, b1⟩ := meas_of n j h.2.2 (by omega) (by omega)
    have k2 : c * b ≤ (if c < 1 then 1 else c) * js j := Int.mul_le_mul (by split <;> omega) b1 b0 (by split <;> omega)
    refine ⟨c * b, ?_, Int.mul_nonneg c0.1 b0, by rw [js]; exact k2⟩
    rw [enc, meas.eq_def]
    dsimp only
    rw [show btw (0 - mxI) mxI (.tuple [.str w, .int c, enc j]) = false from rfl, if_neg Bool.false_ne_true, if_pos (show w = ("repeat" : Str) ∨ w = ("copies" : Str) from h.1), btw_t c0.1 c0.2, if_pos rfl, q]
    dsimp only
    rw [if_neg (by show ¬ ((jn j : Int) = 400 ∨ c * b > mxI); omega), jn]
    congr 2
theorem measL_of : ∀ (n : Nat) (ps : List Jb) (a b : Int), (∀ p ∈ ps, JW n p) → a + jns ps ≤ 400 → b + jss ps ≤ mxI → 0 ≤ a → 0 ≤ b → ∃ b', measL n (encs ps) a b = some (a + jns ps, b') ∧ b ≤ b' ∧ b' ≤ b + jss ps
  | n, [], a, b, _, _, _, _, _ => by
    refine ⟨b, ?_, by omega, by rw [jss]; omega⟩
    rw [encs, measL, jns]
    congr 2
    omega
  | n, p :: ps, a, b, h, l1, l2, ha, hb => by
    rw [jns] at l1
    rw [jss] at l2
    have nn := js_nn p
    have nn2 := jss_nn ps
    obtain ⟨b1, q, c0, c1⟩ := meas_of n p (h p List.mem_cons_self) (by omega) (by omega)
    obtain ⟨b2, ih, d0, d1⟩ := measL_of n ps (a + jn p) (b + b1) (fun q m => h q (List.mem_cons_of_mem _ m)) (by omega) (by omega) (by omega) (by omega)
    refine ⟨b2, ?_, by omega, by rw [jss]; omega⟩
    rw [encs, measL, q]
    dsimp only
    rw [if_neg (by omega), ih, jns]
    congr 2
    omega
end
theorem isjob_of {n : Nat} {j : Jb} (h : JW n j) (hn : n ≤ 13) (l1 : jn j ≤ 400) (l2 : js j ≤ mxI) : (meas 13 (enc j)).isSome = true := by
  obtain ⟨b, q, _⟩ := meas_of 13 j (h.mono hn) l1 l2
  rw [q]; rfl
instance (w : Str) : Decidable (isG w) := inferInstanceAs (Decidable (_ ∨ _))
instance (w : Str) : Decidable (isM w) := inferInstanceAs (Decidable (_ ∨ _))
theorem memG {w : Str} : decide (w ∈ [("seq" : Str), "par"]) = decide (isG w) := by
  rw [decide_eq_decide]
  unfold isG
  simp
theorem memM {w : Str} : decide (w ∈ [("repeat" : Str), "copies"]) = decide (isM w) := by
  rw [decide_eq_decide]
  unfold isM
  simp
theorem mem_G {w : Str} (h : isG w) : w ∈ [("seq" : Str), "par"] := by rcases h with rfl | rfl <;> simp
theorem not_G {w : Str} (h : isM w) : w ∉ [("seq" : Str), "par"] := by rcases h with rfl | rfl <;> decide +kernel
theorem in_G2 {w : Str} : cmpD .In (.str w) (.tuple [.str "seq", .str "par"]) = some (decide (isG w)) := by
  show inD (.str w) ([("seq" : Str), "par"].map .str) = _
  rw [in_str, memG]
theorem isM_not {w : Str} (h : isM w) : ¬ isG w := by
  rcases h with rfl | rfl <;> decide +kernel
theorem jn_mem : ∀ {ps : List Jb} {j : Jb}, j ∈ ps → jn j ≤ jns ps
  | p :: ps, j, m => by
    rw [jns]
    rcases List.mem_cons.mp m with rfl | m
    · omega
    · have := jn_mem m; omega
end Tx.Pl
namespace Tx
open PySem Mi Pl
theorem φ14 : ΦT ds 22 = some f22 := rfl
theorem φ15 : ΦT ds 23 = some f23 := rfl
theorem φ16 : ΦT ds 24 = some f24 := rfl
/-- the numbers of a case -/
structure S3 where
  a : Int
  b : Int
  c : Int
def ob (s : S3) : Ob := .lst [.int s.a, .int s.b, .int s.c]
def Bd (N : Nat) (s : S3) : Prop := (0 ≤ s.a ∧ s.a < 10 ^ 800) ∧ (0 ≤ s.b ∧ s.b < 100000000000000000) ∧ (0 ≤ s.c ∧ s.c ≤ N)
def one (s : S3) : Int := (s.b + 11400714819323198 * (s.c + 1)) % 18014398509481951
def two (s : S3) : Int := (one s * one s % 36028797018963913 * one s + 2654435761 * (s.c + 1) + s.b % 65521) % 1125899906842597
def dv (s : S3) (m : Int) : Int := if 0 < s.a then s.a % m else two s * two s % 562949953421231 / 512 % m
def dn (s : S3) (m : Int) : S3 := if 0 < s.a then ⟨s.a / m, s.b, s.c⟩ else ⟨s.a, s.b, s.c + 1⟩
theorem dv_rg {s : S3} {m : Int} (hm : 1 ≤ m) : 0 ≤ dv s m ∧ dv s m < m := by
  unfold dv
  split
  · exact ⟨Int.emod_nonneg _ (by omega), Int.emod_lt_of_pos _ (by omega)⟩
  · exact ⟨Int.emod_nonneg _ (by omega), Int.emod_lt_of_pos _ (by omega)⟩
theorem dn_bd {N : Nat} {s : S3} {m : Int} (hm : 1 ≤ m) (b : Bd N s) : Bd (N + 1) (dn s m) := by
  unfold dn
  obtain ⟨⟨a0, a1⟩, b1, c0, c1⟩ := b
  split
  · refine ⟨⟨Int.ediv_nonneg a0 (by omega), Int.lt_of_le_of_lt (Int.ediv_le_self _ a0) a1⟩, b1, c0, ?_⟩
    show s.c ≤ ((N + 1 : Nat) : Int)
    omega
  · refine ⟨⟨a0, a1⟩, b1, ?_, ?_⟩
    · show 0 ≤ s.c + 1
      omega
    · show s.c + 1 ≤ ((N + 1 : Nat) : Int)
      omega
variable {hp : Sh}
theorem hp_at {s : S3} : (hp ++ [ob s])[hp.length]? = some (ob s) := by rw [List.getElem?_append_right (Nat.le_refl _), Nat.sub_self]; rfl
theorem hp_set {s : S3} {x : Ob} : (hp ++ [ob s]).set hp.length x = hp ++ [x] := by rw [List.set_append_right _ _ (Nat.le_refl _), Nat.sub_self]; rfl
theorem ok_lt {i : Int} (h0 : 0 ≤ i) (h : i < 10 ^ 800) : okI i = true := by
  unfold okI LIM
  refine decide_eq_true ?_
  have h2 : i.natAbs < 10 ^ 800 := by
    have : ((i.natAbs : Nat) : Int) < ((10 ^ 800 : Nat) : Int) := by rw [Int.natAbs_of_nonneg h0]; exact h
    exact Int.ofNat_lt.mp this
  exact Nat.lt_trans h2 (Nat.pow_lt_pow_right (by decide) (by decide))
theorem ok_b {i : Int} (h0 : 0 ≤ i) (h : i ≤ 100000000000000000000) : okI i = true := ok_lt h0 (Int.lt_of_le_of_lt h (by decide +kernel))
theorem mulB {a b : Int} (ha : 0 ≤ a ∧ a ≤ 100000000000000000000) (hb : 0 ≤ b ∧ b ≤ 100000000000000000000) : binD .Mult (.int a) (.int b) = some (.int (a * b)) := by
  show (if okI a && okI b then some (PyData.int (a * b)) else none) = _
  rw [ok_b ha.1 ha.2, ok_b hb.1 hb.2]
  rfl
theorem modB {a m : Int} (hm : 0 < m) : binD .Mod (.int a) (.int m) = some (.int (a % m)) := by
  show (if 0 < m then some (PyData.int (a % m)) else none) = _
  rw [if_pos hm]
theorem divB {a m : Int} (hm : 0 < m) (h : m ≤ 100000000000000000000) : binD .FloorDiv (.int a) (.int m) = some (.int (a / m)) := by
  show (if decide (0 < m) && okI m then some (PyData.int (a / m)) else none) = _
  rw [decide_eq_true hm, ok_b (by omega) h]
  rfl
theorem emod_rg {a : Int} (m : Int) (hm : 0 < m) (h : m ≤ 100000000000000000000) : 0 ≤ a % m ∧ a % m ≤ 100000000000000000000 := by
  have := Int.emod_nonneg a (show m ≠ 0 by omega)
  have := Int.emod_lt_of_pos a hm
  omega
theorem p15 {k N : Nat} {s : S3} {m : Int} (b : Bd N s) (hN : N ≤ 1000000) (hm : 1 ≤ m ∧ m ≤ 1000000000) : Cl (k + 1) 23 [.ref hp.length, .d (.int m)] (hp ++ [ob s]) = .ok (.d (.int (dv s m))) (hp ++ [ob (dn s m)]) := by
  obtain ⟨⟨a0, a1⟩, ⟨b0, b1⟩, c0, c1⟩ := b
  rw [Cl, call_at φ15 rfl]
  refine fin_end ?_
  have at0 : ∀ (t : S3) env, env[0]? = some (.v (.ref hp.length)) → Ev k (.ix (.var 0) (.cst (.int 0))) env (hp ++ [ob t]) = .ok (.d (.int t.a)) (hp ++ [ob t]) := fun t env e => e_ixR (by rw [evE, e]) rfl hp_at at_0
  have at1 : ∀ (t : S3) env, env[0]? = some (.v (.ref hp.length)) → Ev k (.ix (.var 0) (.cst (.int 1))) env (hp ++ [ob t]) = .ok (.d (.int t.b)) (hp ++ [ob t]) := fun t env e => e_ixR (by rw [evE, e]) rfl hp_at at_1
  have at2 : ∀ (t : S3) env, env[0]? = some (.v (.ref hp.length)) → Ev k (.ix (.var 0) (.cst (.int 2))) env (hp ++ [ob t]) = .ok (.d (.int t.c)) (hp ++ [ob t]) := fun t env e => e_ixR (by rw [evE, e]) rfl hp_at at_2
  have t0 : tru (Ev k (.cmp .Gt (.ix (.var 0) (.cst (.int 0))) (.cst (.int 0))) [.v (.ref hp.length), .v (.d (.int m)), .no, .no, .no] (hp ++ [ob s])) = .ok (decide (0 < s.a)) (hp ++ [ob s]) := t_cmp (at0 s _ rfl) rfl rfl
  unfold dv dn
  by_cases c : 0 < s.a
  · rw [if_pos c, if_pos c]
    refine s_ifT (t0.trans (by rw [decide_eq_true c])) ?_
    refine (s_asg (e_bin (at0 s _ rfl) rfl (modB (by omega))) rfl).trans ?_
    refine (s_setix (e_bin (at0 s _ rfl) rfl (divB (by omega) (by omega))) rfl rfl hp_at (k := 0) rfl).trans ?_
    rw [hp_set]
    exact s_ret rfl
  · rw [if_neg c, if_neg c]
    refine (s_ifF (t0.trans (by rw [decide_eq_false c]))).trans ?_
    refine (s_setix (e_bin (at2 s _ rfl) rfl rfl) rfl rfl hp_at (k := 2) rfl).trans ?_
    rw [hp_set]
    have r1 := emod_rg (a := s.b + 11400714819323198 * (s.c + 1)) 18014398509481951 (by decide) (by decide)
    have r2 := emod_rg (a := one s * one s) 36028797018963913 (by decide) (by decide)
    have r3 := emod_rg (a := one s * one s % 36028797018963913 * one s + 2654435761 * (s.c + 1) + s.b % 65521) 1125899906842597 (by decide) (by decide)
    have g1 : ∀ env, env[0]? = some (.v (.ref hp.length)) → Ev k (.bin .Mod (.bin .Add (.ix (.var 0) (.cst (.int 1))) (.bin .Mult (.cst (.int 11400714819323198)) (.ix (.var 0) (.cst (.int 2))))) (.cst (.int 18014398509481951))) env (hp ++ [ob ⟨s.a, s.b, s.c + 1⟩]) = .ok (.d (.int (one s))) (hp ++ [ob ⟨s.a, s.b, s.c + 1⟩]) := fun env e => e_bin (e_bin (at1 ⟨s.a, s.b, s.c + 1⟩ _ e) (e_bin rfl (at2 ⟨s.a, s.b, s.c + 1⟩ _ e) (mulB (by decide) ⟨by show 0 ≤ s.c + 1; omega, by show s.c + 1 ≤ _; omega⟩)) rfl) rfl rfl
    refine (s_asg (g1 _ rfl) rfl).trans ?_
    refine (s_asg (e_bin (e_bin (e_bin rfl rfl (mulB r1 r1)) rfl rfl) rfl (mulB r2 r1)) rfl).trans ?_
    refine (s_asg (e_bin (e_bin (e_bin rfl (e_bin rfl (at2 ⟨s.a, s.b, s.c + 1⟩ _ rfl) (mulB (by decide) ⟨by show 0 ≤ s.c + 1; omega, by show s.c + 1 ≤ _; omega⟩)) rfl) (e_bin (at1 ⟨s.a, s.b, s.c + 1⟩ _ rfl) rfl rfl) rfl) rfl rfl) rfl).trans ?_
    exact s_ret (e_bin (e_bin (e_bin (e_bin rfl rfl (mulB r3 r3)) rfl rfl) rfl (divB (by decide) (by decide))) rfl (modB (by omega)))
theorem powB {i j : Int} (h : 0 ≤ j ∧ j ≤ 100) (o : okI i = true) : binD .Pow (.int i) (.int j) = some (.int (i ^ j.toNat)) := by
  show (if decide (0 ≤ j ∧ j ≤ 100) && okI i then some (PyData.int (i ^ j.toNat)) else none) = _
  rw [decide_eq_true h, o]
  rfl
def body16 : List Ts := [.asg (.n 2) (.bin .Add (.bin .Mult (.var 2) (.bin .Pow (.cst (.int 10)) (.cst (.int 9)))) (.call 23 [.var 0, .bin .Pow (.cst (.int 10)) (.cst (.int 9))]))]
theorem nine : (10 : Int) ^ (9 : Int).toNat = 1000000000 := by decide
theorem ev9 {K : Nat} {env : En} {h : Sh} : Ev K (.bin .Pow (.cst (.int 10)) (.cst (.int 9))) env h = .ok (.d (.int 1000000000)) h := e_bin rfl rfl ((powB (by decide) (ok_b (by decide) (by decide))).trans (by rw [nine]))
theorem turn16 {k N : Nat} {s : S3} {m f : Int} {s3 : Sl} (b : Bd N s) (hN : N ≤ 1000000) (hf : 0 ≤ f ∧ f < 10 ^ 800) :
    evSs (Cf (k + 1)) (GT gs) 50000 body16 [.v (.ref hp.length), .v (.d (.int m)), .v (.d (.int f)), s3] (hp ++ [ob s]) = .ok (.nx [.v (.ref hp.length), .v (.d (.int m)), .v (.d (.int (f * 1000000000 + dv s 1000000000))), s3]) (hp ++ [ob (dn s 1000000000)]) := by
  have mu : binD .Mult (.int f) (.int 1000000000) = some (.int (f * 1000000000)) := by
    show (if okI f && okI 1000000000 then some (PyData.int (f * 1000000000)) else none) = _
    rw [ok_lt hf.1 hf.2, ok_b (by decide) (by decide)]
    rfl
  refine (s_asg (e_bin (e_bin rfl ev9 mu) ((e_call (es_cons rfl (es_cons ev9 es_nil))).trans (p15 (k := k) b hN ⟨by decide, by decide⟩)) rfl) rfl).trans ?_
  rw [evSs]
  rfl
theorem p16 {k N : Nat} {s : S3} {m : Int} (b : Bd N s) (hN : N ≤ 900000) (hm : 1 ≤ m) : ∃ s' v, Cl (k + 2) 24 [.ref hp.length, .d (.int m)] (hp ++ [ob s]) = .ok (.d (.int v)) (hp ++ [ob s']) ∧ (0 ≤ v ∧ v < m) ∧ Bd (N + 4) s' := by
  have d0 := dv_rg (s := s) (m := 1000000000) (by decide)
  have b1 := dn_bd (m := 1000000000) (by decide) b
  have d1 := dv_rg (s := dn s 1000000000) (m := 1000000000) (by decide)
  have b2 := dn_bd (m := 1000000000) (by decide) b1
  have d2 := dv_rg (s := dn (dn s 1000000000) 1000000000) (m := 1000000000) (by decide)
  have b3 := dn_bd (m := 1000000000) (by decide) b2
  have d3 := dv_rg (s := dn (dn (dn s 1000000000) 1000000000) 1000000000) (m := 1000000000) (by decide)
  have b4 := dn_bd (m := 1000000000) (by decide) b3
  have big : (1000000000000000000000000000000000000000000000000000 : Int) < 10 ^ 800 := by decide +kernel
  have z : ∀ f : Int, 0 ≤ f → f < 1000000000000000000000000000000000000000000000000000 → 0 ≤ f ∧ f < 10 ^ 800 := fun f h0 h1 => ⟨h0, Int.lt_trans h1 big⟩
  have t0 := fun s3 => turn16 (hp := hp) (k := k) (m := m) (s3 := s3) (f := 0) b (by omega) (z _ (by decide) (by decide))
  have t1 := fun s3 => turn16 (hp := hp) (k := k) (m := m) (s3 := s3) (f := 0 * 1000000000 + dv s 1000000000) b1 (by omega) (z _ (by omega) (by omega))
  have t2 := fun s3 => turn16 (hp := hp) (k := k) (m := m) (s3 := s3) (f := (0 * 1000000000 + dv s 1000000000) * 1000000000 + dv (dn s 1000000000) 1000000000) b2 (by omega) (z _ (by omega) (by omega))
  have t3 := fun s3 => turn16 (hp := hp) (k := k) (m := m) (s3 := s3) (f := ((0 * 1000000000 + dv s 1000000000) * 1000000000 + dv (dn s 1000000000) 1000000000) * 1000000000 + dv (dn (dn s 1000000000) 1000000000) 1000000000) b3 (by omega) (z _ (by omega) (by omega))
  refine ⟨dn (dn (dn (dn s 1000000000) 1000000000) 1000000000) 1000000000, ((((0 * 1000000000 + dv s 1000000000) * 1000000000 + dv (dn s 1000000000) 1000000000) * 1000000000 + dv (dn (dn s 1000000000) 1000000000) 1000000000) * 1000000000 + dv (dn (dn (dn s 1000000000) 1000000000) 1000000000) 1000000000) % m, ?_, ⟨Int.emod_nonneg _ (show m ≠ 0 by omega), Int.emod_lt_of_pos _ (by omega)⟩, b4⟩
  rw [Cl, call_at φ16 rfl]
  have loop := fl_next (tg := .n 3) (x := .d (.int 0)) (env := [.v (.ref hp.length), .v (.d (.int m)), .v (.d (.int 0)), .no]) rfl (t0 _) (fl_next (tg := .n 3) (x := .d (.int 1)) rfl (t1 _) (fl_next (tg := .n 3) (x := .d (.int 2)) rfl (t2 _) (fl_next (tg := .n 3) (x := .d (.int 3)) rfl (t3 _) fl_nil)))
  refine fin_end ((s_asg rfl rfl).trans ((s_for rfl rfl loop).trans (s_ret ?_)))
  exact e_bin rfl rfl (modB (by omega))
def MM : Int := (10 ^ 60) ^ 12
theorem MM_b : 0 < MM ∧ MM ≤ 10 ^ 720 := by
  unfold MM
  rw [← Int.pow_mul]
  exact ⟨Int.pow_pos (by decide), Int.le_refl _⟩
theorem eMM {K : Nat} {env : En} {h : Sh} : Ev K (.bin .Pow (.bin .Pow (.cst (.int 10)) (.cst (.int 60))) (.cst (.int 12))) env h = .ok (.d (.int MM)) h := by
  refine e_bin (e_bin rfl rfl (powB (by decide) (ok_b (by decide) (by decide)))) rfl (powB (by decide) (ok_lt ?_ ?_))
  · exact Int.le_of_lt (Int.pow_pos (by decide))
  · show (10 : Int) ^ 60 < 10 ^ 800
    decide +kernel
theorem p14 {k at' : Nat} {ns : List Int} (ha : at' < 1000) : ∃ s, Cl (k + 1) 22 [.scr ns, .d (.int at')] hp = .ok (.ref hp.length) (hp ++ [ob s]) ∧ Bd 0 s := by
  obtain ⟨cell, hc⟩ : ∃ cell : Int, Ev k (.ite (.cmp .Lt (.var 1) (.bi .len [.var 0])) (.ix (.var 0) (.var 1)) (.bin .Add (.bin .Mult (.cst (.int 3)) (.var 1)) (.cst (.int 2)))) [.v (.scr ns), .v (.d (.int at')), .no, .no, .no] hp = .ok (.d (.int cell)) hp := by
    have t : tru (Ev k (.cmp .Lt (.var 1) (.bi .len [.var 0])) [.v (.scr ns), .v (.d (.int at')), .no, .no, .no] hp) = .ok (decide ((at' : Int) < (ns.length : Int))) hp := t_cmp (y := .int ns.length) rfl rfl rfl
    by_cases c : at' < ns.length
    · refine ⟨ns[at'], (e_ite t).trans ?_⟩
      rw [if_pos (decide_eq_true (by omega))]
      have q : L2.atI ns (at' : Int) = some ns[at'] := at_k (List.getElem?_eq_getElem c)
      rw [evE, evE]
      show (lift (ixV hp (.scr ns) (.d (.int at'))) hp) = _
      rw [ixV, q]
      rfl
    · refine ⟨3 * at' + 2, (e_ite t).trans ?_⟩
      rw [if_neg (by rw [decide_eq_false (by omega)]; decide)]
      exact (e_bin (e_bin rfl rfl (mulB (by decide) ⟨by omega, by omega⟩)) rfl rfl)
  have m1 := MM_b
  let size : Int := (if cell < 0 then -cell else cell) % MM
  have s0 : 0 ≤ size := Int.emod_nonneg _ (by have := m1.1; omega)
  have s1 : size < MM := Int.emod_lt_of_pos _ m1.1
  have s2 : size < 10 ^ 800 := Int.lt_trans (Int.lt_of_lt_of_le s1 m1.2) (by decide +kernel)
  have mu : binD .Mult (.int size) (.int 2862933555777941757) = some (.int (size * 2862933555777941757)) := by
    show (if okI size && okI 2862933555777941757 then some (PyData.int (size * 2862933555777941757)) else none) = _
    rw [ok_lt s0 s2, ok_b (by decide) (by decide)]
    rfl
  have e18 : ∀ env h, Ev k (.bin .Pow (.cst (.int 10)) (.cst (.int 18))) env h = .ok (.d (.int 1000000000000000000)) h := fun env h => e_bin rfl rfl ((powB (by decide) (ok_b (by decide) (by decide))).trans (by rw [show (10 : Int) ^ (18 : Int).toNat = 1000000000000000000 by decide]))
  have ei : ∀ s3 s4, Ev k (.bi .int [.cmp .Lt (.var 2) (.cst (.int 0))]) [.v (.scr ns), .v (.d (.int at')), .v (.d (.int cell)), s3, s4] hp = .ok (.d (.int (if decide (cell < 0) then 1 else 0))) hp := fun s3 s4 => e_bi (es_cons (e_cmp rfl rfl rfl) es_nil) rfl rfl
  have ab : Ev k (.bi .abs [.var 2]) [.v (.scr ns), .v (.d (.int at')), .v (.d (.int cell)), .no, .no] hp = .ok (.d (.int (if cell < 0 then -cell else cell))) hp := e_bi (es_cons rfl es_nil) rfl rfl
  refine ⟨⟨if size - 1000000000000000000 > 0 then size - 1000000000000000000 else 0, (size * 2862933555777941757 + 3037000493 * at' + (if decide (cell < 0) then 1 else 0)) % 72057594037927931, 0⟩, ?_, ⟨?_, ?_⟩, ⟨?_, ?_⟩, ?_, ?_⟩
  · rw [Cl, call_at φ14 rfl]
    refine fin_end ((s_asg hc rfl).trans ((s_asg (e_bin ab eMM (modB m1.1)) rfl).trans ((s_asg (e_bin (e_bin (e_bin rfl rfl mu) (e_bin rfl rfl (mulB (by decide) ⟨by omega, by omega⟩)) rfl) (ei _ _) rfl) rfl).trans (s_ret ?_))))
    have d : evL (Cf k) (GT gs) (.disp [.bi .max [.cst (.int 0), .bin .Sub (.var 3) (.bin .Pow (.cst (.int 10)) (.cst (.int 18)))], .bin .Mod (.var 4) (.cst (.int 72057594037927931)), .cst (.int 0)]) [.v (.scr ns), .v (.d (.int at')), .v (.d (.int cell)), .v (.d (.int size)), .v (.d (.int (size * 2862933555777941757 + 3037000493 * at' + (if decide (cell < 0) then 1 else 0))))] hp = .ok [.int (if size - 1000000000000000000 > 0 then size - 1000000000000000000 else 0), .int ((size * 2862933555777941757 + 3037000493 * at' + (if decide (cell < 0) then 1 else 0)) % 72057594037927931), .int 0] hp := by
      have q := es_cons (e_bi (b := .max) (es_cons (e := .cst (.int 0)) rfl (es_cons (e_bin (op := .Sub) (a := .var 3) (x := .int size) (z := .int (size - 1000000000000000000)) rfl (e18 [.v (.scr ns), .v (.d (.int at')), .v (.d (.int cell)), .v (.d (.int size)), .v (.d (.int (size * 2862933555777941757 + 3037000493 * at' + (if decide (cell < 0) then 1 else 0))))] hp) rfl) es_nil)) rfl rfl) (es_cons (e := .bin .Mod (.var 4) (.cst (.int 72057594037927931))) (e_bin rfl rfl (modB (by decide))) (es_cons (e := .cst (.int 0)) rfl es_nil))
      rw [evL, q]
      rfl
    exact e_newl d
  · dsimp only
    split
    · omega
    · exact Int.le_refl _
  · dsimp only
    split
    · exact Int.lt_of_le_of_lt (Int.sub_le_self _ (by decide)) s2
    · exact Int.pow_pos (by decide)
  · exact Int.emod_nonneg _ (by decide)
  · exact Int.lt_of_lt_of_le (Int.emod_lt_of_pos _ (by decide)) (by decide)
  · exact Int.le_refl _
  · exact Int.le_refl _
theorem Bd.mono {N M : Nat} {s : S3} (b : Bd N s) (h : N ≤ M) : Bd M s := ⟨b.1, b.2.1, b.2.2.1, by have := b.2.2.2; omega⟩
end Tx
namespace Tx.Pl
open PySem Mi
theorem at_lt' {xs : List PyData} {v : Int} (h0 : 0 ≤ v) (h1 : v < xs.length) : ∃ x, x ∈ xs ∧ L2.atI xs v = some x := by
  obtain ⟨n, rfl⟩ : ∃ n : Nat, v = n := ⟨v.toNat, by omega⟩
  exact ⟨xs[n]'(by omega), List.getElem_mem _, at_k (List.getElem?_eq_getElem (by omega))⟩
theorem ev30 {K : Nat} {env : En} {h : Sh} : Ev K (.bin .Pow (.cst (.int 10)) (.cst (.int 30))) env h = .ok (.d (.int 1000000000000000000000000000000)) h := e_bin rfl rfl ((powB (by decide) (ok_b (by decide) (by decide))).trans (by rw [show (10 : Int) ^ (30 : Int).toNat = 1000000000000000000000000000000 by decide]))
theorem ev18 {K : Nat} {env : En} {h : Sh} : Ev K (.bin .Pow (.cst (.int 10)) (.cst (.int 18))) env h = .ok (.d (.int 1000000000000000000)) h := e_bin rfl rfl ((powB (by decide) (ok_b (by decide) (by decide))).trans (by rw [show (10 : Int) ^ (18 : Int).toNat = 1000000000000000000 by decide]))
theorem φ17 : ΦT ds 25 = some f25 := rfl
theorem φ18 : ΦT ds 26 = some f26 := rfl
theorem φ19 : ΦT ds 27 = some f27 := rfl
variable {hp : Sh}
/-- a draw, as an expression -/
theorem e_draw {K N : Nat} {s : S3} {m : Int} {env : En} {e : Te} (b : Bd N s) (hN : N ≤ 900000) (hm : 1 ≤ m ∧ m ≤ 1000000000) (e0 : env[0]? = some (.v (.ref hp.length))) (e1 : Ev (K + 1) e env (hp ++ [ob s]) = .ok (.d (.int m)) (hp ++ [ob s])) :
    Ev (K + 1) (.call 23 [.var 0, e]) env (hp ++ [ob s]) = .ok (.d (.int (dv s m))) (hp ++ [ob (dn s m)]) := (e_call (es_cons (e_var e0) (es_cons e1 es_nil))).trans (p15 (hp := hp) (k := K) b (by omega) hm)
theorem p17 {k N : Nat} {s : S3} (b : Bd N s) (hN : N ≤ 800000) : ∃ i s', Cl (k + 4) 25 [.ref hp.length] (hp ++ [ob s]) = .ok (.d (.int i)) (hp ++ [ob s']) ∧ (-mxI ≤ i ∧ i ≤ mxI) ∧ Bd (N + 12) s' := by
  rw [mx]
  have d0 := dv_rg (s := s) (m := 12) (by decide)
  have b1 := dn_bd (m := 12) (by decide) b
  have c0 := fun (env : En) (e0 : env[0]? = some (.v (.ref hp.length))) => e_draw (hp := hp) (K := k + 2) (m := 12) (e := .cst (.int 12)) b (by omega) (by decide) e0 rfl
  generalize dv s 12 = w at *
  generalize dn s 12 = s1 at *
  have pre : ∀ r, evSs (Cf (k + 3)) (GT gs) 50000 (f25.body.drop 1) [.v (.ref hp.length), .v (.d (.int w)), .no] (hp ++ [ob s1]) = r → evSs (Cf (k + 3)) (GT gs) 50000 f25.body [.v (.ref hp.length), .no, .no] (hp ++ [ob s]) = r := fun r hr => (s_asg (c0 _ rfl) rfl).trans hr
  have lt : ∀ i : Int, tru (Ev (k + 3) (.cmp .Lt (.var 1) (.cst (.int i))) [.v (.ref hp.length), .v (.d (.int w)), .no] (hp ++ [ob s1])) = .ok (decide (w < i)) (hp ++ [ob s1]) := fun i => t_cmp rfl rfl rfl
  have fin' : ∀ v s', evSs (Cf (k + 3)) (GT gs) 50000 (f25.body.drop 1) [.v (.ref hp.length), .v (.d (.int w)), .no] (hp ++ [ob s1]) = .ok (.rt (.d (.int v))) (hp ++ [ob s']) → Cl (k + 4) 25 [.ref hp.length] (hp ++ [ob s]) = .ok (.d (.int v)) (hp ++ [ob s']) := fun v s' hv => by
    rw [show k + 4 = (k + 3) + 1 by omega, Cl, call_at φ17 rfl]
    exact fin_end (pre _ hv)
  by_cases w7 : w < 7
  · have d1 := dv_rg (s := s1) (m := 13) (by decide)
    refine ⟨dv s1 13 - 6, dn s1 13, fin' _ _ ?_, by omega, (dn_bd (m := 13) (by decide) b1).mono (by omega)⟩
    exact s_ifT ((lt 7).trans (by rw [decide_eq_true w7])) (s_ret (e_bin (e_draw (K := k + 2) (m := 13) b1 (by omega) (by decide) rfl rfl) rfl rfl))
  · by_cases w9 : w < 9
    · have d1 := dv_rg (s := s1) (m := 6) (by decide)
      obtain ⟨y, my, hy⟩ := at_lt' (xs := [PyData.int 0, .int 1, .int (-1), .int 2, .int (-2), .int 9]) d1.1 (by show _ < ((6 : Nat) : Int); exact d1.2)
      obtain ⟨z, rfl, hz⟩ : ∃ z : Int, y = .int z ∧ -1000000000000000000000000000000 ≤ z ∧ z ≤ 1000000000000000000000000000000 := by
        simp only [List.mem_cons, List.not_mem_nil, or_false] at my
        rcases my with rfl | rfl | rfl | rfl | rfl | rfl <;> exact ⟨_, rfl, by decide, by decide⟩
      have hy' : ixD (.list [PyData.int 0, .int 1, .int (-1), .int 2, .int (-2), .int 9]) (dv s1 6) = some (.int z) := hy
      refine ⟨z, dn s1 6, fin' _ _ ?_, hz, (dn_bd (m := 6) (by decide) b1).mono (by omega)⟩
      refine (s_ifF ((lt 7).trans (by rw [decide_eq_false w7]))).trans (s_ifT ((lt 9).trans (by rw [decide_eq_true w9])) (s_ret ?_))
      exact e_ix (e_disp (es_cons rfl (es_cons rfl (es_cons rfl (es_cons rfl (es_cons rfl (es_cons rfl es_nil)))))) rfl (Nat.le_of_ble_eq_true rfl)) (e_draw (K := k + 2) (m := 6) b1 (by omega) (by decide) rfl rfl) hy'
    · by_cases w11 : w < 11
      · have d1 := dv_rg (s := s1) (m := 201) (by decide)
        refine ⟨dv s1 201 - 100, dn s1 201, fin' _ _ ?_, by omega, (dn_bd (m := 201) (by decide) b1).mono (by omega)⟩
        exact (s_ifF ((lt 7).trans (by rw [decide_eq_false w7]))).trans ((s_ifF ((lt 9).trans (by rw [decide_eq_false w9]))).trans (s_ifT ((lt 11).trans (by rw [decide_eq_true w11])) (s_ret (e_bin (e_draw (K := k + 2) (m := 201) b1 (by omega) (by decide) rfl rfl) rfl rfl))))
      · obtain ⟨s2, v, q2, hv, b2⟩ := p16 (hp := hp) (k := k + 1) (m := 1000000000000000000000000000000) b1 (by omega) (by decide)
        obtain ⟨s3, u, q3, hu, b3⟩ := p16 (hp := hp) (k := k + 1) (m := 1000000000000000000000000000000) b2 (by omega) (by decide)
        have d1 := dv_rg (s := s3) (m := 5) (by decide)
        obtain ⟨y, my, hy⟩ := at_lt' (xs := [PyData.int 1000000000000000000000000000000, .int (0 - 1000000000000000000000000000000), .int 1000000000000000000, .int v, .int (0 - u)]) d1.1 (by show _ < ((5 : Nat) : Int); exact d1.2)
        obtain ⟨z, rfl, hz⟩ : ∃ z : Int, y = .int z ∧ -1000000000000000000000000000000 ≤ z ∧ z ≤ 1000000000000000000000000000000 := by
          simp only [List.mem_cons, List.not_mem_nil, or_false] at my
          rcases my with rfl | rfl | rfl | rfl | rfl
          · exact ⟨_, rfl, by decide, by decide⟩
          · exact ⟨_, rfl, by decide, by decide⟩
          · exact ⟨_, rfl, by decide, by decide⟩
          · exact ⟨_, rfl, by omega, by omega⟩
          · exact ⟨_, rfl, by omega, by omega⟩
        have hy' : ixD (.list [PyData.int 1000000000000000000000000000000, .int (0 - 1000000000000000000000000000000), .int 1000000000000000000, .int v, .int (0 - u)]) (dv s3 5) = some (.int z) := hy
        refine ⟨z, dn s3 5, fin' _ _ ?_, hz, (dn_bd (m := 5) (by decide) b3).mono (by omega)⟩
        refine (s_ifF ((lt 7).trans (by rw [decide_eq_false w7]))).trans ((s_ifF ((lt 9).trans (by rw [decide_eq_false w9]))).trans ((s_ifF ((lt 11).trans (by rw [decide_eq_false w11]))).trans ?_))
        refine (s_asg (e_disp (es_cons ev30 (es_cons (e_bin rfl ev30 rfl) (es_cons ev18 (es_cons ((e_call (es_cons rfl (es_cons ev30 es_nil))).trans q2) (es_cons (e_bin rfl ((e_call (es_cons rfl (es_cons ev30 es_nil))).trans q3) rfl) es_nil))))) rfl (Nat.le_of_ble_eq_true rfl)) rfl).trans (s_ret ?_)
        exact e_ix (x := .list [PyData.int 1000000000000000000000000000000, .int (0 - 1000000000000000000000000000000), .int 1000000000000000000, .int v, .int (0 - u)]) rfl (e_draw (K := k + 2) (m := 5) b3 (by omega) (by decide) rfl rfl) hy'
/-- empty ones -/
def E4 : List Jb := [.gr "seq" [], .gr "par" [], .ml "repeat" 0 (.st 5), .ml "copies" 0 (.gr "seq" [.st 1, .st (-2)])]
theorem JW_gr {n : Nat} {w : Str} {ps : List Jb} (a : isG w) (b : ps.length ≤ 400) (c : ∀ p ∈ ps, JW n p) : JW (n + 1) (.gr w ps) := by rw [JW]; exact ⟨a, b, c⟩
theorem JW_ml {n : Nat} {w : Str} {c : Int} {j : Jb} (a : isM w) (b : 0 ≤ c ∧ c ≤ mxI) (d : JW n j) : JW (n + 1) (.ml w c j) := by rw [JW]; exact ⟨a, b, d⟩
theorem JW_st {n : Nat} {i : Int} (a : -mxI ≤ i ∧ i ≤ mxI) : JW (n + 1) (.st i) := by rw [JW]; exact a
theorem E4_ok : ∀ j ∈ E4, JW 3 j ∧ jn j ≤ 4 ∧ js j ≤ jn j := by
  intro j m
  have sm : ∀ i : Int, -10 ≤ i → i ≤ 10 → -mxI ≤ i ∧ i ≤ mxI := fun i a b => by rw [mx]; omega
  simp only [E4, List.mem_cons, List.not_mem_nil, or_false] at m
  rcases m with rfl | rfl | rfl | rfl
  · exact ⟨JW_gr (.inl rfl) (by decide) fun p m => (List.not_mem_nil m).elim, by decide, by decide⟩
  · exact ⟨JW_gr (.inr rfl) (by decide) fun p m => (List.not_mem_nil m).elim, by decide, by decide⟩
  · exact ⟨JW_ml (.inl rfl) (by rw [mx]; decide) (JW_st (sm 5 (by decide) (by decide))), by decide, by decide⟩
  · refine ⟨JW_ml (.inr rfl) (by rw [mx]; decide) (JW_gr (.inl rfl) (by decide) fun p m => ?_), by decide, by decide⟩
    simp only [List.mem_cons, List.not_mem_nil, or_false] at m
    rcases m with rfl | rfl
    · exact JW_st (sm 1 (by decide) (by decide))
    · exact JW_st (sm (-2) (by decide) (by decide))
theorem p18 {k N : Nat} {s : S3} (b : Bd N s) (hN : N ≤ 800000) : ∃ j s', Cl (k + 2) 26 [.ref hp.length] (hp ++ [ob s]) = .ok (.d (enc j)) (hp ++ [ob s']) ∧ j ∈ E4 ∧ Bd (N + 1) s' := by
  have d1 := dv_rg (s := s) (m := 4) (by decide)
  obtain ⟨y, my, hy⟩ := at_lt' (xs := E4.map enc) d1.1 (by show _ < ((4 : Nat) : Int); exact d1.2)
  obtain ⟨j, mj, rfl⟩ := List.mem_map.mp my
  refine ⟨j, dn s 4, ?_, mj, dn_bd (m := 4) (by decide) b⟩
  have hy' : ixD (.list (E4.map enc)) (dv s 4) = some (enc j) := hy
  rw [show k + 2 = (k + 1) + 1 by omega, Cl, call_at φ18 rfl]
  refine fin_end (s_ret (e_ix (x := .list (E4.map enc)) ?_ (e_draw (K := k) (m := 4) b (by omega) (by decide) rfl rfl) hy'))
  have e : E4.map enc = [.tuple [.str "seq", .tuple []], .tuple [.str "par", .tuple []], .tuple [.str "repeat", .int 0, .int 5], .tuple [.str "copies", .int 0, .tuple [.str "seq", .tuple [.int 1, .int (-2)]]]] := rfl
  rw [e]
  exact e_disp (es_cons (e_tup (es_cons rfl (es_cons (e_tup es_nil rfl (Nat.zero_le _)) es_nil)) rfl (Nat.le_of_ble_eq_true rfl)) (es_cons (e_tup (es_cons rfl (es_cons (e_tup es_nil rfl (Nat.zero_le _)) es_nil)) rfl (Nat.le_of_ble_eq_true rfl)) (es_cons (e_tup (es_cons rfl (es_cons rfl (es_cons rfl es_nil))) rfl (Nat.le_of_ble_eq_true rfl)) (es_cons (e_tup (es_cons rfl (es_cons rfl (es_cons (e_tup (es_cons rfl (es_cons (e_tup (es_cons rfl (es_cons rfl es_nil)) rfl (Nat.le_of_ble_eq_true rfl)) es_nil)) rfl (Nat.le_of_ble_eq_true rfl)) es_nil))) rfl (Nat.le_of_ble_eq_true rfl)) es_nil)))) rfl (Nat.le_of_ble_eq_true rfl)
theorem subI {a b : Nat} (h : b ≤ a) : binD .Sub (.int (a : Int)) (.int (b : Int)) = some (.int ((a - b : Nat) : Int)) := by
  show some (PyData.int ((a : Int) - (b : Int))) = _
  rw [show (a : Int) - (b : Int) = ((a - b : Nat) : Int) by omega]
/-! ### jobs drawn -/
/-- nodes, at most: n + 1 levels, m steps to give away -/
def Gn : Nat → Nat → Nat
  | _, 0 => 4
  | 0, _ + 1 => 1
  | n + 1, m + 1 => 13 + (13 * n + 1) * (m + 1)
theorem Gn_le (n m : Nat) (h : 1 ≤ m) : Gn n m ≤ (13 * n + 1) * m := by
  obtain ⟨m, rfl⟩ : ∃ m', m = m' + 1 := ⟨m - 1, by omega⟩
  cases n with
  | zero => rw [Gn]; omega
  | succ n =>
    rw [Gn]
    have : (13 * (n + 1) + 1) * (m + 1) = (13 * n + 1) * (m + 1) + 13 * (m + 1) := by rw [← Nat.add_mul, show 13 * n + 1 + 13 = 13 * (n + 1) + 1 by omega]
    omega
theorem Gn_ge (n m : Nat) (h : 1 ≤ m) : 13 + (13 * n + 1) * m ≤ Gn (n + 1) m := by
  obtain ⟨m, rfl⟩ : ∃ m', m = m' + 1 := ⟨m - 1, by omega⟩
  rw [Gn]
  exact Nat.le_refl _
/-- what a drawn job keeps -/
structure DJ (n b : Nat) (K : Int) (j : Jb) : Prop where
  w : JW (n + 3) j
  n : jn j ≤ b
  s : js j ≤ K * jn j
def DN : Nat → Nat
  | 0 => 20
  | n + 1 => 20 + 5 * DN n
theorem DN_ge (n : Nat) : 20 ≤ DN n := by cases n <;> rw [DN] <;> omega
theorem jns_app : ∀ (a b : List Jb), jns (a ++ b) = jns a + jns b
  | [], b => by rw [List.nil_append, jns]; omega
  | x :: a, b => by rw [List.cons_append, jns, jns, jns_app a b]; omega
theorem jss_app : ∀ (a b : List Jb), jss (a ++ b) = jss a + jss b
  | [], b => by rw [List.nil_append, jss]; omega
  | x :: a, b => by rw [List.cons_append, jss, jss, jss_app a b]; omega
theorem encs_app (a b : List Jb) : encs (a ++ b) = encs a ++ encs b := by rw [encs_map, encs_map, encs_map, List.map_append]
def body19 : List Ts := [.asg (.n 8) (.ite (.cmp .Eq (.var 7) (.cst (.int 0))) (.cst (.int 0)) (.bin .Add (.cst (.int 1)) (.call 23 [.var 0, .var 7]))), .app 6 (.call 27 [.var 0, .var 8, .bin .Sub (.var 2) (.cst (.int 1))]), .asg (.n 7) (.bin .Sub (.var 7) (.var 8))]
abbrev En19 (L : Nat) (m d w : Int) (t5 : Sl) (acc : List PyData) (left : Nat) (t8 : Sl) : En := [.v (.ref L), .v (.d (.int m)), .v (.d (.int d)), .v (.d (.int w)), .no, t5, .own acc, .v (.d (.int left)), t8]
section
variable {K n D : Nat} {KK : Int}
  (ih : ∀ (m N : Nat) (s : S3), m ≤ 9 → Bd N s → N + D ≤ 800000 → ∃ j s', Cl (K + 1) 27 [.ref hp.length, .d (.int m), .d (.int ((n + 1 : Nat) : Int))] (hp ++ [ob s]) = .ok (.d (enc j)) (hp ++ [ob s']) ∧ DJ n (Gn n m) KK j ∧ Bd (N + D) s')
include ih
theorem turn19 {m w : Int} {t5 t8 : Sl} {acc : List PyData} {left N : Nat} {s : S3} (hl : left ≤ 9) (ha : acc.length ≤ 1000) (b : Bd N s) (hN : N + D + 1 ≤ 800000) :
    ∃ (few : Nat) (j : Jb) (s' : S3) (u8 : Sl), evSs (Cf (K + 1)) (GT gs) 50000 body19 (En19 hp.length m ((n + 2 : Nat) : Int) w t5 acc left t8) (hp ++ [ob s]) = .ok (.nx (En19 hp.length m ((n + 2 : Nat) : Int) w t5 (acc ++ [enc j]) (left - few) u8)) (hp ++ [ob s']) ∧ (few ≤ left ∧ (1 ≤ left → 1 ≤ few)) ∧ DJ n (Gn n few) KK j ∧ Bd (N + D + 1) s' := by
  have zz := SZ_eq
  obtain ⟨few, s1, q, hf, b1⟩ : ∃ (few : Nat) (s1 : S3), Ev (K + 1) (.ite (.cmp .Eq (.var 7) (.cst (.int 0))) (.cst (.int 0)) (.bin .Add (.cst (.int 1)) (.call 23 [.var 0, .var 7]))) (En19 hp.length m ((n + 2 : Nat) : Int) w t5 acc left t8) (hp ++ [ob s]) = .ok (.d (.int few)) (hp ++ [ob s1]) ∧ (few ≤ left ∧ (1 ≤ left → 1 ≤ few)) ∧ Bd (N + 1) s1 := by
    have t : tru (Ev (K + 1) (.cmp .Eq (.var 7) (.cst (.int 0))) (En19 hp.length m ((n + 2 : Nat) : Int) w t5 acc left t8) (hp ++ [ob s])) = .ok (decide (left = 0)) (hp ++ [ob s]) := t_cmp rfl rfl (cmp_eq.trans (eq_int.trans (by congr 1; rw [decide_eq_decide]; omega)))
    by_cases c : left = 0
    · exact ⟨0, s, (e_ite t).trans ((if_pos (decide_eq_true c)).trans rfl), by omega, b.mono (by omega)⟩
    · have d := dv_rg (s := s) (m := left) (by omega)
      obtain ⟨v, hv⟩ : ∃ v : Nat, dv s left = v := ⟨(dv s left).toNat, by omega⟩
      refine ⟨1 + v, dn s left, (e_ite t).trans ((if_neg (by rw [decide_eq_false c]; exact Bool.false_ne_true)).trans ?_), by omega, dn_bd (m := left) (by omega) b⟩
      have e := e_bin (e1 := rfl) (e_draw (hp := hp) (K := K) (m := left) (e := .var 7) (env := En19 hp.length m ((n + 2 : Nat) : Int) w t5 acc left t8) b (by omega) (by omega) rfl rfl) (show binD .Add (.int 1) (.int (dv s left)) = some (.int (1 + dv s left)) from rfl) (a := .cst (.int 1))
      rw [hv] at e
      exact e
  obtain ⟨j, s2, q2, dj, b2⟩ := ih few (N + 1) s1 (by omega) b1 (by omega)
  refine ⟨few, j, s2, .v (.d (.int few)), ?_, hf, dj, b2.mono (by omega)⟩
  have e2 : Ev (K + 1) (.bin .Sub (.var 2) (.cst (.int 1))) (En19 hp.length m ((n + 2 : Nat) : Int) w t5 acc left (.v (.d (.int few)))) (hp ++ [ob s1]) = .ok (.d (.int ((n + 1 : Nat) : Int))) (hp ++ [ob s1]) := by
    refine e_bin rfl rfl (show some (PyData.int (((n + 2 : Nat) : Int) - 1)) = _ from ?_)
    rw [show ((n + 2 : Nat) : Int) - 1 = ((n + 1 : Nat) : Int) by omega]
  refine (s_asg q rfl).trans ((s_app (xs := acc) rfl ((e_call (es_cons rfl (es_cons rfl (es_cons e2 es_nil)))).trans q2) (by omega)).trans ((s_asg (v := .d (.int ((left - few : Nat) : Int))) (e_bin rfl rfl (subI hf.1)) rfl).trans ss_nil))
theorem loop19 {m w : Int} : ∀ (r : Nat) (lo : Int) (N left : Nat) (s : S3) (acc : List PyData) (t5 t8 : Sl), left ≤ 9 → acc.length + r ≤ 1000 → Bd N s → N + (D + 1) * r ≤ 800000 →
    ∃ (es : List Jb) (left' : Nat) (s' : S3) (u5 u8 : Sl), forLoop (evSs (Cf (K + 1)) (GT gs) 50000 body19) (.n 5) (rng lo r) (En19 hp.length m ((n + 2 : Nat) : Int) w t5 acc left t8) (hp ++ [ob s]) = .ok (.nx (En19 hp.length m ((n + 2 : Nat) : Int) w u5 (acc ++ encs es) left' u8)) (hp ++ [ob s']) ∧
      es.length = r ∧ (∀ j ∈ es, JW (n + 3) j ∧ js j ≤ KK * jn j) ∧ jns es + (13 * n + 1) * left' ≤ (13 * n + 1) * left + 4 * r ∧ left' ≤ left ∧ Bd (N + (D + 1) * r) s'
  | 0, lo, N, left, s, acc, t5, t8, _, _, b, _ => ⟨[], left, s, t5, t8, by rw [encs, List.append_nil]; exact fl_nil, rfl, fun j m => (List.not_mem_nil m).elim, by rw [jns]; omega, Nat.le_refl _, b⟩
  | r + 1, lo, N, left, s, acc, t5, t8, hl, ha, b, hN => by
    rw [Nat.mul_succ] at hN
    obtain ⟨few, j, s1, u8, q, hf, dj, b1⟩ := turn19 ih (m := m) (w := w) (t5 := .v (.d (.int lo))) (t8 := t8) (acc := acc) hl (by omega) b (by omega)
    obtain ⟨es, left', s2, v5, v8, q2, le, he, hs, hl2, b2⟩ := loop19 r (lo + 1) (N + D + 1) (left - few) s1 (acc ++ [enc j]) (.v (.d (.int lo))) u8 (by omega) (by rw [List.length_append, List.length_singleton]; omega) b1 (by omega)
    refine ⟨j :: es, left', s2, v5, v8, ?_, by rw [List.length_cons, le], fun i m => ?_, ?_, by omega, b2.mono (by rw [Nat.mul_succ]; omega)⟩
    · rw [encs]
      have e : acc ++ enc j :: encs es = (acc ++ [enc j]) ++ encs es := by rw [List.append_assoc]; rfl
      rw [e]
      exact fl_next rfl q q2
    · rcases List.mem_cons.mp m with rfl | m
      · exact ⟨dj.w, dj.s⟩
      · exact he i m
    · rw [jns]
      have jn' := dj.n
      have key : jn j ≤ (13 * n + 1) * few + 4 := by
        by_cases c : few = 0
        · rw [c] at jn'
          have : Gn n 0 = 4 := by cases n <;> rw [Gn]
          omega
        · have := Gn_le n few (by omega)
          omega
      have e : (13 * n + 1) * left = (13 * n + 1) * (left - few) + (13 * n + 1) * few := by rw [← Nat.mul_add]; congr 1; omega
      omega
end
end Tx.Pl
namespace Tx.Pl
open PySem Mi
variable {hp : Sh}
theorem w_at {v : Int} {a b : Str} : ∃ w, L2.atI [PyData.str a, .str b] (v % 2) = some (.str w) ∧ (w = a ∨ w = b) := by
  have mw : v % 2 = 0 ∨ v % 2 = 1 := by omega
  rcases mw with e | e
  · exact ⟨a, by rw [e]; exact at_0, .inl rfl⟩
  · exact ⟨b, by rw [e]; exact at_1, .inr rfl⟩
theorem e_w {K : Nat} {env : En} {h : Sh} {v : Int} {a b w : Str} (e3 : env[3]? = some (.v (.d (.int v)))) (hw : L2.atI [PyData.str a, .str b] (v % 2) = some (.str w)) : Ev K (.ix (.ofL (.disp [.cst (.str a), .cst (.str b)])) (.bin .Mod (.var 3) (.cst (.int 2)))) env h = .ok (.d (.str w)) h :=
  e_ix (x := .list [.str a, .str b]) (e_disp (es_cons rfl (es_cons rfl es_nil)) rfl (Nat.le_of_ble_eq_true rfl)) (e_bin (e_var e3) rfl (modB (by decide))) hw
theorem js_gr {w : Str} {ps : List Jb} {K : Int} (hK : 1 ≤ K) (h : ∀ p ∈ ps, js p ≤ K * jn p) : js (.gr w ps) ≤ K * jn (.gr w ps) := by
  have : jss ps ≤ K * jns ps := by
    induction ps with
    | nil => rw [jss, jns]; simp
    | cons p ps ih =>
      have a := h p List.mem_cons_self
      have b := ih fun q m => h q (List.mem_cons_of_mem _ m)
      rw [jss, jns, Int.natCast_add, Int.mul_add]
      omega
  rw [js, jn, Int.natCast_add, Int.mul_add]
  omega
theorem js_ml {w : Str} {c : Int} {j : Jb} {K C : Int} (hK : 1 ≤ K) (hC : 1 ≤ C) (hc : c ≤ C) (h : js j ≤ K * jn j) : js (.ml w c j) ≤ (C * K) * jn (.ml w c j) := by
  have n0 := js_nn j
  have a : (if c < 1 then 1 else c) * js j ≤ C * (K * jn j) := Int.mul_le_mul (by split <;> omega) h n0 (by omega)
  rw [js, jn, Int.natCast_add, Int.mul_add, Int.mul_assoc, Int.mul_assoc]
  have b : 0 ≤ C * (K * ((1 : Nat) : Int)) := Int.mul_nonneg (by omega) (Int.mul_nonneg (by omega) (by omega))
  omega
theorem minI {a : Nat} (h : a ≤ 9) : biD .min [.int (a : Int), .int 3] = some (.int ((min a 3 : Nat) : Int)) := by
  show some (PyData.int (if (3 : Int) < (a : Int) then 3 else (a : Int))) = _
  congr 2
  split <;> omega
theorem p19 : ∀ (n k m N : Nat) (s : S3), m ≤ 9 → Bd N s → N + DN n ≤ 800000 → ∃ j s', Cl (k + n + 5) 27 [.ref hp.length, .d (.int m), .d (.int ((n + 1 : Nat) : Int))] (hp ++ [ob s]) = .ok (.d (enc j)) (hp ++ [ob s']) ∧ DJ n (Gn n m) (3 ^ n) j ∧ Bd (N + DN n) s' := by
  intro n
  induction n with
  | zero =>
    intro k m N s hm b hN
    rw [DN] at hN
    have b1 := dn_bd (m := 10) (by decide) b
    have c0 := e_draw (hp := hp) (K := k + 3) (m := 10) (e := .cst (.int 10)) (env := [.v (.ref hp.length), .v (.d (.int m)), .v (.d (.int ((0 + 1 : Nat) : Int))), .no, .no, .no, .no, .no, .no]) b (by omega) (by decide) rfl rfl
    rw [show k + 0 + 5 = (k + 4) + 1 by omega, Cl, call_at φ19 rfl]
    have t0 : tru (Ev (k + 4) (.cmp .Eq (.var 1) (.cst (.int 0))) [.v (.ref hp.length), .v (.d (.int m)), .v (.d (.int ((0 + 1 : Nat) : Int))), .v (.d (.int (dv s 10))), .no, .no, .no, .no, .no] (hp ++ [ob (dn s 10)])) = .ok (decide (m = 0)) (hp ++ [ob (dn s 10)]) := t_cmp rfl rfl (cmp_eq.trans (eq_int.trans (by congr 1; rw [decide_eq_decide]; omega)))
    by_cases c : m = 0
    · obtain ⟨j, s2, q, mj, b2⟩ := p18 (hp := hp) (k := k + 2) b1 (by omega)
      obtain ⟨j1, j2, j3⟩ := E4_ok j mj
      refine ⟨j, s2, fin_end ((s_asg c0 rfl).trans (s_ifT (t0.trans (by rw [decide_eq_true c])) (s_ret ((e_call rfl).trans q)))), ⟨j1, by rw [c, Gn]; exact j2, by rw [Int.pow_zero, Int.one_mul]; exact j3⟩, b2.mono (by rw [DN]; omega)⟩
    · obtain ⟨i, s2, q, hi, b2⟩ := p17 (hp := hp) (k := k) b1 (by omega)
      refine ⟨.st i, s2, ?_, ⟨JW_st hi, by obtain ⟨m, rfl⟩ : ∃ m', m = m' + 1 := ⟨m - 1, by omega⟩; rw [Gn, jn]; exact Nat.le_refl _, by rw [js, jn]; decide⟩, b2.mono (by rw [DN]; omega)⟩
      rw [enc]
      exact fin_end ((s_asg c0 rfl).trans ((s_ifF (t0.trans (by rw [decide_eq_false c]))).trans (s_ifT (h1 := hp ++ [ob (dn s 10)]) (t_orT (t_cmp rfl rfl rfl)) (s_ret ((e_call rfl).trans q)))))
  | succ n ih =>
    intro k m N s hm b hN
    have zz := SZ_eq
    have hD := DN_ge n
    have eD : DN (n + 1) = 20 + 5 * DN n := by rw [DN]
    have b1 := dn_bd (m := 10) (by decide) b
    have d0 := dv_rg (s := s) (m := 10) (by decide)
    have c0 := e_draw (hp := hp) (K := k + n + 4) (m := 10) (e := .cst (.int 10)) (env := [.v (.ref hp.length), .v (.d (.int m)), .v (.d (.int ((n + 2 : Nat) : Int))), .no, .no, .no, .no, .no, .no]) b (by omega) (by decide) rfl rfl
    generalize dv s 10 = w at *
    generalize dn s 10 = s1 at *
    have t0 : tru (Ev (k + n + 5) (.cmp .Eq (.var 1) (.cst (.int 0))) [.v (.ref hp.length), .v (.d (.int m)), .v (.d (.int ((n + 2 : Nat) : Int))), .v (.d (.int w)), .no, .no, .no, .no, .no] (hp ++ [ob s1])) = .ok (decide (m = 0)) (hp ++ [ob s1]) := t_cmp rfl rfl (cmp_eq.trans (eq_int.trans (by congr 1; rw [decide_eq_decide]; omega)))
    have td : tru (Ev (k + n + 5) (.cmp .Lt (.var 2) (.cst (.int 2))) [.v (.ref hp.length), .v (.d (.int m)), .v (.d (.int ((n + 2 : Nat) : Int))), .v (.d (.int w)), .no, .no, .no, .no, .no] (hp ++ [ob s1])) = .ok false (hp ++ [ob s1]) := t_cmp (x := .int ((n + 2 : Nat) : Int)) (y := .int 2) rfl rfl (by show some (decide (((n + 2 : Nat) : Int) < 2)) = _; rw [decide_eq_false (by omega)])
    have tw : ∀ i : Int, tru (Ev (k + n + 5) (.cmp .Lt (.var 3) (.cst (.int i))) [.v (.ref hp.length), .v (.d (.int m)), .v (.d (.int ((n + 2 : Nat) : Int))), .v (.d (.int w)), .no, .no, .no, .no, .no] (hp ++ [ob s1])) = .ok (decide (w < i)) (hp ++ [ob s1]) := fun i => t_cmp rfl rfl rfl
    have go : ∀ v s', evSs (Cf (k + n + 5)) (GT gs) 50000 (f27.body.drop 1) [.v (.ref hp.length), .v (.d (.int m)), .v (.d (.int ((n + 2 : Nat) : Int))), .v (.d (.int w)), .no, .no, .no, .no, .no] (hp ++ [ob s1]) = .ok (.rt (.d v)) (hp ++ [ob s']) → Cl (k + (n + 1) + 5) 27 [.ref hp.length, .d (.int m), .d (.int ((n + 1 + 1 : Nat) : Int))] (hp ++ [ob s]) = .ok (.d v) (hp ++ [ob s']) := fun v s' hv => by
      rw [show k + (n + 1) + 5 = (k + n + 5) + 1 by omega, Cl, call_at φ19 rfl]
      exact fin_end ((s_asg c0 rfl).trans hv)
    have p3 : (1 : Int) ≤ 3 ^ n := Int.pow_pos (by decide)
    have e3 : (3 : Int) ^ (n + 1) = 3 * 3 ^ n := by rw [Int.pow_succ, Int.mul_comm]
    by_cases c : m = 0
    · obtain ⟨j, s2, q, mj, b2⟩ := p18 (hp := hp) (k := k + n + 3) b1 (by omega)
      obtain ⟨j1, j2, j3⟩ := E4_ok j mj
      refine ⟨j, s2, go _ _ (s_ifT (t0.trans (by rw [decide_eq_true c])) (s_ret ((e_call rfl).trans q))), ⟨j1.mono (by omega), by rw [c, Gn]; exact j2, ?_⟩, b2.mono (by omega)⟩
      have : 1 * (jn j : Int) ≤ 3 ^ (n + 1) * jn j := Int.mul_le_mul_of_nonneg_right (by rw [e3]; omega) (by omega)
      omega
    · by_cases w2 : w < 2
      · obtain ⟨i, s2, q, hi, b2⟩ := p17 (hp := hp) (k := k + n + 1) b1 (by omega)
        have q' : Cl (k + n + 5) 25 [.ref hp.length] (hp ++ [ob s1]) = .ok (.d (.int i)) (hp ++ [ob s2]) := q
        refine ⟨.st i, s2, ?_, ⟨JW_st hi, ?_, ?_⟩, b2.mono (by omega)⟩
        · rw [enc]
          exact go _ _ ((s_ifF (t0.trans (by rw [decide_eq_false c]))).trans (s_ifT ((t_orF td).trans (t_or1.trans ((tw 2).trans (by rw [decide_eq_true w2])))) (s_ret ((e_call rfl).trans q'))))
        · have := Gn_ge n m (by omega)
          rw [jn]; omega
        · rw [js, jn, e3]
          show (1 : Int) ≤ 3 * 3 ^ n * 1
          omega
      · have nx : ∀ r, evSs (Cf (k + n + 5)) (GT gs) 50000 (f27.body.drop 3) [.v (.ref hp.length), .v (.d (.int m)), .v (.d (.int ((n + 2 : Nat) : Int))), .v (.d (.int w)), .no, .no, .no, .no, .no] (hp ++ [ob s1]) = r → evSs (Cf (k + n + 5)) (GT gs) 50000 (f27.body.drop 1) [.v (.ref hp.length), .v (.d (.int m)), .v (.d (.int ((n + 2 : Nat) : Int))), .v (.d (.int w)), .no, .no, .no, .no, .no] (hp ++ [ob s1]) = r := fun r hr =>
          (s_ifF (t0.trans (by rw [decide_eq_false c]))).trans ((s_ifF ((t_orF td).trans (t_or1.trans ((tw 2).trans (by rw [decide_eq_false w2]))))).trans hr)
        by_cases w8 : w < 8
        · -- parts
          have d4 := dv_rg (s := s1) (m := 4) (by decide)
          have b2 := dn_bd (m := 4) (by decide) b1
          have c4 := e_draw (hp := hp) (K := k + n + 4) (m := 4) (e := .cst (.int 4)) (env := En19 hp.length m ((n + 2 : Nat) : Int) w .no [] m .no) b1 (by omega) (by decide) rfl rfl
          obtain ⟨r, hr⟩ : ∃ r : Nat, dv s1 4 = r := ⟨(dv s1 4).toNat, by omega⟩
          rw [hr] at c4 d4
          generalize dn s1 4 = s2 at *
          have ih' : ∀ (m N : Nat) (s : S3), m ≤ 9 → Bd N s → N + DN n ≤ 800000 → ∃ j s', Cl (k + n + 4 + 1) 27 [.ref hp.length, .d (.int m), .d (.int ((n + 1 : Nat) : Int))] (hp ++ [ob s]) = .ok (.d (enc j)) (hp ++ [ob s']) ∧ DJ n (Gn n m) (3 ^ n) j ∧ Bd (N + DN n) s' := fun m N s a b d => ih k m N s a b d
          obtain ⟨few, j1, s3, u8, q1, hf, dj, b3⟩ := turn19 (K := k + n + 4) ih' (m := m) (w := w) (t5 := .v (.d (.int 0))) (t8 := .no) (acc := []) (left := m) hm (by decide) b2 (by omega)
          have hmul : (DN n + 1) * r ≤ (DN n + 1) * 3 := Nat.mul_le_mul_left _ (by omega)
          obtain ⟨es, left', s4, v5, v8, q2, le, he, hs, hl2, b4⟩ := loop19 (K := k + n + 4) ih' (m := m) (w := w) r 1 (N + 1 + 1 + DN n + 1) (m - few) s3 [enc j1] (.v (.d (.int 0))) u8 (by omega) (by simp; omega) b3 (by omega)
          have lp' := fl_next (tg := .n 5) (x := .d (.int 0)) (xs := rng 1 r) (env := En19 hp.length m ((n + 2 : Nat) : Int) w .no [] m .no) rfl q1 q2
          obtain ⟨wd, hwd, ewd⟩ := w_at (v := w) (a := "seq") (b := "par")
          refine ⟨.gr wd (j1 :: es), s4, ?_, ⟨?_, ?_, ?_⟩, b4.mono (by omega)⟩
          · refine go _ _ (nx _ (s_ifT ((tw 8).trans (by rw [decide_eq_true w8])) ?_))
            refine (s_par (xs_l (l_disp es_nil rfl (Nat.zero_le _)) (xs_e rfl xs_nil)) rfl).trans ?_
            refine (s_for (es_cons (e_bin rfl c4 (show binD .Add (.int 1) (.int (r : Int)) = some (.int ((r + 1 : Nat) : Int)) from ?_)) es_nil) (items := rng 0 (r + 1)) ?_ lp').trans (s_ret ?_)
            · show some (PyData.int (1 + (r : Int))) = _
              rw [show (1 : Int) + (r : Int) = ((r + 1 : Nat) : Int) by omega]
            · show (if -1000000 ≤ ((r + 1 : Nat) : Int) ∧ ((r + 1 : Nat) : Int) ≤ 1000000 then some (rng 0 ((r + 1 : Nat) : Int).toNat) else none) = _
              rw [if_pos (by omega), Int.toNat_natCast]
            · rw [enc, encs]
              exact e_tup (es_cons (e_w rfl hwd) (es_cons (e_bi (es_cons (e_peek (i := 6) rfl) es_nil) rfl rfl) es_nil)) rfl (Nat.le_of_ble_eq_true rfl)
          · refine JW_gr ewd (by rw [List.length_cons, le]; omega) fun p mp => ?_
            rcases List.mem_cons.mp mp with rfl | mp
            · exact dj.w
            · exact (he p mp).1
          · have g1 := Gn_ge n m (by omega)
            have g2 := Gn_le n few (hf.2 (by omega))
            have d1 := dj.n
            have e : (13 * n + 1) * m = (13 * n + 1) * (m - few) + (13 * n + 1) * few := by rw [← Nat.mul_add]; congr 1; omega
            rw [jn, jns]
            omega
          · have a := js_gr (w := wd) (ps := j1 :: es) p3 fun p mp => by
              rcases List.mem_cons.mp mp with rfl | mp
              · exact dj.s
              · exact (he p mp).2
            have : (3 : Int) ^ n * jn (.gr wd (j1 :: es)) ≤ 3 ^ (n + 1) * jn (.gr wd (j1 :: es)) := Int.mul_le_mul_of_nonneg_right (by rw [e3]; omega) (by omega)
            omega
        · -- a multiple
          have mm : (1 : Int) ≤ ((min m 3 + 1 : Nat) : Int) ∧ ((min m 3 + 1 : Nat) : Int) ≤ 1000000000 := by omega
          have d4 := dv_rg (s := s1) (m := ((min m 3 + 1 : Nat) : Int)) mm.1
          have b2 := dn_bd (m := ((min m 3 + 1 : Nat) : Int)) mm.1 b1
          have em : Ev (k + n + 5) (.bin .Add (.bi .min [.var 1, .cst (.int 3)]) (.cst (.int 1))) [.v (.ref hp.length), .v (.d (.int m)), .v (.d (.int ((n + 2 : Nat) : Int))), .v (.d (.int w)), .no, .no, .no, .no, .no] (hp ++ [ob s1]) = .ok (.d (.int ((min m 3 + 1 : Nat) : Int))) (hp ++ [ob s1]) := e_bin (e_bi (es_cons rfl (es_cons rfl es_nil)) rfl (minI hm)) rfl rfl
          have c4 := e_draw (hp := hp) (K := k + n + 4) b1 (by omega) mm rfl em
          obtain ⟨r, hr⟩ : ∃ r : Nat, dv s1 ((min m 3 + 1 : Nat) : Int) = r := ⟨(dv s1 ((min m 3 + 1 : Nat) : Int)).toNat, by omega⟩
          rw [hr] at c4 d4
          generalize dn s1 ((min m 3 + 1 : Nat) : Int) = s2 at *
          have hr3 : r ≤ 3 ∧ r ≤ m := by omega
          have m1 : 1 ≤ m / max 1 r := by
            rw [Nat.le_div_iff_mul_le (by omega)]
            omega
          have m2 : m / max 1 r ≤ m := Nat.div_le_self _ _
          obtain ⟨j, s3, q, dj, b3⟩ := ih k (m / max 1 r) (N + 1 + 1) s2 (by omega) b2 (by omega)
          obtain ⟨wd, hwd, ewd⟩ := w_at (v := w) (a := "repeat") (b := "copies")
          refine ⟨.ml wd r j, s3, ?_, ⟨JW_ml ewd (by rw [mx]; omega) dj.w, ?_, ?_⟩, b3.mono (by omega)⟩
          · refine go _ _ (nx _ ((s_ifF ((tw 8).trans (by rw [decide_eq_false w8]))).trans ((s_asg c4 rfl).trans (s_ret ?_))))
            have fd : Ev (k + n + 5) (.bin .FloorDiv (.var 1) (.bi .max [.cst (.int 1), .var 4])) [.v (.ref hp.length), .v (.d (.int m)), .v (.d (.int ((n + 2 : Nat) : Int))), .v (.d (.int w)), .v (.d (.int r)), .no, .no, .no, .no] (hp ++ [ob s2]) = .ok (.d (.int ((m / max 1 r : Nat) : Int))) (hp ++ [ob s2]) := by
              refine e_bin rfl (e_bi (z := .int ((max 1 r : Nat) : Int)) (es_cons rfl (es_cons rfl es_nil)) rfl ?_) ?_
              · show some (PyData.int (if (r : Int) > 1 then (r : Int) else 1)) = _
                congr 2
                split <;> omega
              · refine (divB (by omega) (by omega)).trans ?_
                congr 2
            have e2 : Ev (k + n + 5) (.bin .Sub (.var 2) (.cst (.int 1))) [.v (.ref hp.length), .v (.d (.int m)), .v (.d (.int ((n + 2 : Nat) : Int))), .v (.d (.int w)), .v (.d (.int r)), .no, .no, .no, .no] (hp ++ [ob s2]) = .ok (.d (.int ((n + 1 : Nat) : Int))) (hp ++ [ob s2]) := e_bin rfl rfl (subI (a := n + 2) (b := 1) (by omega))
            rw [enc]
            exact e_tup (es_cons (e_w rfl hwd) (es_cons rfl (es_cons ((e_call (es_cons rfl (es_cons fd (es_cons e2 es_nil)))).trans q) es_nil))) rfl (Nat.le_of_ble_eq_true rfl)
          · have g1 := Gn_ge n m (by omega)
            have g2 := Gn_le n (m / max 1 r) m1
            have d1 := dj.n
            have g3 : (13 * n + 1) * (m / max 1 r) ≤ (13 * n + 1) * m := Nat.mul_le_mul_left _ m2
            rw [jn]
            omega
          · rw [e3]
            exact js_ml p3 (by decide) (by omega) dj.s
end Tx.Pl
namespace Tx.Pl
open PySem Mi
variable {hp : Sh}
theorem φ21 : ΦT ds 29 = some f29 := rfl
theorem φ22 : ΦT ds 30 = some f30 := rfl
theorem rng_length : ∀ (j : Nat) (lo : Int), (rng lo j).length = j
  | 0, _ => rfl
  | j + 1, lo => by rw [rng, List.length_cons, rng_length j]
theorem jns_b {B : Nat} : ∀ es : List Jb, (∀ x ∈ es, jn x ≤ B) → jns es ≤ es.length * B
  | [], _ => by rw [jns]; exact Nat.zero_le _
  | x :: es, h => by
    have a := h x List.mem_cons_self
    have b := jns_b es fun y m => h y (List.mem_cons_of_mem _ m)
    rw [jns, List.length_cons, Nat.succ_mul]
    omega
/-! ### steps counted -/
mutual
def jc : Jb → Int
  | .st _ => 1
  | .gr _ ps => jcs ps
  | .ml _ c j => c * jc j
def jcs : List Jb → Int
  | [] => 0
  | j :: r => jc j + jcs r
end
mutual
theorem jc_b : ∀ (n : Nat) (j : Jb), JW n j → 0 ≤ jc j ∧ jc j ≤ js j
  | 0, j, h => by rw [JW] at h; exact h.elim
  | n + 1, .st i, h => by rw [jc, js]; decide
  | n + 1, .gr w ps, h => by
    rw [JW] at h
    rw [jc, js]
    exact jcs_b n ps h.2.2
  | n + 1, .ml w c j, h => by
    rw [JW] at h
    have a := jc_b n j h.2.2
    have c0 := h.2.1.1
    rw [jc, js]
    exact ⟨Int.mul_nonneg c0 a.1, Int.mul_le_mul (by split <;> omega) a.2 a.1 (by split <;> omega)⟩
theorem jcs_b : ∀ (n : Nat) (ps : List Jb), (∀ p ∈ ps, JW n p) → 0 ≤ jcs ps ∧ jcs ps ≤ jss ps
  | n, [], _ => by rw [jcs, jss]; decide
  | n, p :: ps, h => by
    have a := jc_b n p (h p List.mem_cons_self)
    have b := jcs_b n ps fun q m => h q (List.mem_cons_of_mem _ m)
    rw [jcs, jss]
    omega
end
theorem jcs_map : ∀ ps : List Jb, jcs ps = (ps.map jc).sum
  | [] => by rw [jcs]; rfl
  | p :: ps => by rw [jcs, jcs_map ps, List.map_cons, List.sum_cons]
theorem ints_map : ∀ ns : List Int, intsOf (ns.map .int) = some ns
  | [] => rfl
  | n :: r => by rw [List.map_cons, intsOf, ints_map r]; rfl
theorem jss_mem : ∀ {ps : List Jb} {j : Jb}, j ∈ ps → js j ≤ jss ps
  | p :: ps, j, m => by
    have a := js_nn p
    have b := jss_nn ps
    rw [jss]
    rcases List.mem_cons.mp m with rfl | m
    · omega
    · have := jss_mem m; omega
theorem lim_mx {i : Int} (h : 0 ≤ i ∧ i ≤ mxI) : okI i = true := by
  rw [mx] at h
  exact ok_lt h.1 (Int.lt_of_le_of_lt h.2 (by decide +kernel))
theorem p21 {h : Sh} : ∀ (n : Nat) (j : Jb) (k : Nat), JW n j → js j ≤ mxI → jn j ≤ 400 → Cl (k + n) 29 [.d (enc j)] h = .ok (.d (.int (jc j))) h
  | 0, j, k, w, _, _ => by rw [JW] at w; exact w.elim
  | n + 1, .st i, k, w, _, _ => by
    rw [enc, jc, show k + (n + 1) = (k + n) + 1 by omega, Cl, call_at φ21 rfl]
    exact fin_end (s_ifT (h1 := h) (t_isi (x := .int i) rfl rfl) (s_ret rfl))
  | n + 1, .gr w ps, k, hw, l, ln => by
    have zz := SZ_eq
    rw [JW] at hw
    rw [js] at l
    rw [jn] at ln
    rw [jc, show k + (n + 1) = (k + n) + 1 by omega, Cl, call_at φ21 rfl]
    have t0 : tru (Ev (k + n) (.isi (.var 0) [.int]) [.v (.d (enc (.gr w ps))), .no] h) = .ok false h := t_isi rfl (by rw [enc]; rfl)
    have first : Ev (k + n) (.ix (.var 0) (.cst (.int 0))) [.v (.d (enc (.gr w ps))), .no] h = .ok (.d (.str w)) h := e_ix rfl rfl (by rw [enc]; exact ix_0)
    have second : Ev (k + n) (.ix (.var 0) (.cst (.int 1))) [.v (.d (enc (.gr w ps))), .no] h = .ok (.d (.tuple (encs ps))) h := e_ix rfl rfl (by rw [enc]; exact ix_1)
    have tG := t_cmp first (e_tup (C := Cf (k + n)) (G := GT gs) (env := [.v (.d (enc (.gr w ps))), .no]) (h := h) (es := [.cst (.str "seq"), .cst (.str "par")]) (es_cons rfl (es_cons rfl es_nil)) rfl (Nat.le_of_ble_eq_true rfl)) in_G2
    refine fin_end ((s_ifF t0).trans (s_ifT (tG.trans (by rw [decide_eq_true hw.1])) (s_ret ?_)))
    have cz := comp_zip (C := Cf (k + n)) (G := GT gs) (tg := .n 1) (elt := Ev (k + n) (.call 29 [.var 1])) (env := [.v (.d (enc (.gr w ps))), .no]) (ps.map fun j => (enc j, PyData.int (jc j))) (h := h) fun z m => by
      obtain ⟨j, mj, rfl⟩ := List.mem_map.mp m
      exact ⟨_, rfl, (e_call rfl).trans (p21 n j k (hw.2.2 j mj) (by have := jss_mem mj; omega) (by have := jn_mem mj; omega))⟩
    have a1 : (ps.map fun j => (enc j, PyData.int (jc j))).map (·.1) = encs ps := by rw [List.map_map, encs_map]; rfl
    have a2 : (ps.map fun j => (enc j, PyData.int (jc j))).map (·.2) = (ps.map jc).map .int := by rw [List.map_map, List.map_map]; rfl
    rw [a1, a2] at cz
    refine e_bi (es_cons (e_comp (kk := .seq) (es_cons second es_nil) rfl (by rw [encs_len]; have := hw.2.1; omega) cz) es_nil) rfl ?_
    show (intsOf ((ps.map jc).map .int)).map _ = _
    rw [ints_map, jcs_map]
    rfl
  | n + 1, .ml w c j, k, hw, l, ln => by
    rw [JW] at hw
    have n0 := js_nn j
    have jb := jc_b n j hw.2.2
    rw [js] at l
    rw [jn] at ln
    have k1 : 1 * js j ≤ (if c < 1 then 1 else c) * js j := Int.mul_le_mul_of_nonneg_right (by split <;> omega) n0
    rw [jc, show k + (n + 1) = (k + n) + 1 by omega, Cl, call_at φ21 rfl]
    have t0 : tru (Ev (k + n) (.isi (.var 0) [.int]) [.v (.d (enc (.ml w c j))), .no] h) = .ok false h := t_isi rfl (by rw [enc]; rfl)
    have first : Ev (k + n) (.ix (.var 0) (.cst (.int 0))) [.v (.d (enc (.ml w c j))), .no] h = .ok (.d (.str w)) h := e_ix rfl rfl (by rw [enc]; exact ix_0)
    have second : Ev (k + n) (.ix (.var 0) (.cst (.int 1))) [.v (.d (enc (.ml w c j))), .no] h = .ok (.d (.int c)) h := e_ix rfl rfl (by rw [enc]; exact ix_1)
    have third : Ev (k + n) (.ix (.var 0) (.cst (.int 2))) [.v (.d (enc (.ml w c j))), .no] h = .ok (.d (enc j)) h := e_ix rfl rfl (by rw [enc]; exact ix_2)
    have tG := t_cmp first (e_tup (C := Cf (k + n)) (G := GT gs) (env := [.v (.d (enc (.ml w c j))), .no]) (h := h) (es := [.cst (.str "seq"), .cst (.str "par")]) (es_cons rfl (es_cons rfl es_nil)) rfl (Nat.le_of_ble_eq_true rfl)) in_G2
    refine fin_end ((s_ifF t0).trans ((s_ifF (tG.trans (by rw [decide_eq_false (isM_not hw.1)]))).trans (s_ret ?_)))
    refine e_bin second ((e_call (es_cons third es_nil)).trans (p21 n j k hw.2.2 (by omega) (by omega))) ?_
    show (if okI c && okI (jc j) then some (PyData.int (c * jc j)) else none) = _
    rw [lim_mx hw.2.1, lim_mx ⟨jb.1, by omega⟩]
    rfl
end Tx.Pl
namespace Tx.Pl
open PySem Mi
variable {hp : Sh}
/-! ### jobs for the law -/
structure OKJ (j : Jb) : Prop where
  w : JW 10 j
  n : jn j ≤ 373
  s : js j ≤ mxI
def body22 : List Ts := [.asg (.n 4) (.call 27 [.var 0, .var 1, .var 2]), .iff (.cmp .Gt (.call 29 [.var 4]) (.cst (.int 2))) [.ret (.var 4)] []]
theorem DN4 : DN 4 = 15620 ∧ DN 3 = 3120 := by decide
theorem DJ.ok {j : Jb} (d : DJ 4 (Gn 4 9) (3 ^ 4) j) : OKJ j := by
  have n0 := d.n
  have s0 := d.s
  have e : Gn 4 9 = 373 := by decide
  rw [e] at n0
  have m : (3 : Int) ^ 4 * (jn j : Int) ≤ 3 ^ 4 * 373 := Int.mul_le_mul_of_nonneg_left (by omega) (by decide)
  exact ⟨d.w.mono (by decide), n0, Int.le_trans s0 (Int.le_trans m (by rw [mx]; decide))⟩
theorem loop22 {K : Nat} : ∀ (r : Nat) (lo : Int) (N : Nat) (s : S3) (s3 s4 : Sl), Bd N s → N + 16000 * r ≤ 800000 →
    (∃ j s', forLoop (evSs (Cf (K + 10)) (GT gs) 50000 body22) (.n 3) (rng lo r) [.v (.ref hp.length), .v (.d (.int 9)), .v (.d (.int 5)), s3, s4] (hp ++ [ob s]) = .ok (.rt (.d (enc j))) (hp ++ [ob s']) ∧ OKJ j ∧ Bd (N + 16000 * r) s') ∨
    (∃ t3 t4 s', forLoop (evSs (Cf (K + 10)) (GT gs) 50000 body22) (.n 3) (rng lo r) [.v (.ref hp.length), .v (.d (.int 9)), .v (.d (.int 5)), s3, s4] (hp ++ [ob s]) = .ok (.nx [.v (.ref hp.length), .v (.d (.int 9)), .v (.d (.int 5)), t3, t4]) (hp ++ [ob s']) ∧ Bd (N + 16000 * r) s')
  | 0, lo, N, s, s3, s4, b, _ => .inr ⟨s3, s4, s, fl_nil, b⟩
  | r + 1, lo, N, s, s3, s4, b, hN => by
    have dn4 := DN4.1
    obtain ⟨j, s1, q, dj, b1⟩ := p19 (hp := hp) 4 (K + 1) 9 N s (by decide) b (by omega)
    have oj := dj.ok
    have q' : Ev (K + 10) (.call 27 [.var 0, .var 1, .var 2]) [.v (.ref hp.length), .v (.d (.int 9)), .v (.d (.int 5)), .v (.d (.int lo)), s4] (hp ++ [ob s]) = .ok (.d (enc j)) (hp ++ [ob s1]) := (e_call (es_cons rfl (es_cons rfl (es_cons rfl es_nil)))).trans q
    have t : tru (Ev (K + 10) (.cmp .Gt (.call 29 [.var 4]) (.cst (.int 2))) [.v (.ref hp.length), .v (.d (.int 9)), .v (.d (.int 5)), .v (.d (.int lo)), .v (.d (enc j))] (hp ++ [ob s1])) = .ok (decide (2 < jc j)) (hp ++ [ob s1]) := t_cmp ((e_call rfl).trans (p21 10 j K oj.w oj.s (by have := oj.n; omega))) rfl rfl
    by_cases c : 2 < jc j
    · exact .inl ⟨j, s1, fl_ret rfl ((s_asg q' rfl).trans (s_ifT (t.trans (by rw [decide_eq_true c])) (s_ret rfl))), oj, b1.mono (by omega)⟩
    · have nx : evSs (Cf (K + 10)) (GT gs) 50000 body22 [.v (.ref hp.length), .v (.d (.int 9)), .v (.d (.int 5)), .v (.d (.int lo)), s4] (hp ++ [ob s]) = .ok (.nx [.v (.ref hp.length), .v (.d (.int 9)), .v (.d (.int 5)), .v (.d (.int lo)), .v (.d (enc j))]) (hp ++ [ob s1]) := (s_asg q' rfl).trans ((s_ifF (t.trans (by rw [decide_eq_false c]))).trans ss_nil)
      rcases loop22 r (lo + 1) (N + DN 4) s1 (.v (.d (.int lo))) (.v (.d (enc j))) b1 (by omega) with ⟨i, s', q2, oi, b2⟩ | ⟨t3, t4, s', q2, b2⟩
      · exact .inl ⟨i, s', fl_next rfl nx q2, oi, b2.mono (by omega)⟩
      · exact .inr ⟨t3, t4, s', fl_next rfl nx q2, b2.mono (by omega)⟩
def J22 : Jb := .gr "par" [.gr "seq" [.st 5, .st (-3)], .ml "copies" 2 (.st (-1))]
theorem sm_mx (i : Int) (a : -1000000 ≤ i) (b : i ≤ 1000000) : -mxI ≤ i ∧ i ≤ mxI := by rw [mx]; omega
theorem J22_ok : OKJ J22 := by
  refine ⟨JW_gr (.inr rfl) (by decide) fun p m => ?_, by decide, by rw [mx]; decide⟩
  simp only [List.mem_cons, List.not_mem_nil, or_false] at m
  rcases m with rfl | rfl
  · refine JW_gr (.inl rfl) (by decide) fun p m => ?_
    simp only [List.mem_cons, List.not_mem_nil, or_false] at m
    rcases m with rfl | rfl
    · exact JW_st (sm_mx _ (by decide) (by decide))
    · exact JW_st (sm_mx _ (by decide) (by decide))
  · exact JW_ml (.inr rfl) (by rw [mx]; decide) (JW_st (sm_mx _ (by decide) (by decide)))
theorem p22 {k N : Nat} {s : S3} (b : Bd N s) (hN : N ≤ 700000) : ∃ j s', Cl (k + 11) 30 [.ref hp.length, .d (.int 9), .d (.int 5)] (hp ++ [ob s]) = .ok (.d (enc j)) (hp ++ [ob s']) ∧ OKJ j ∧ Bd (N + 80000) s' := by
  rcases loop22 (hp := hp) (K := k) 5 0 N s .no .no b (by omega) with ⟨j, s', q, oj, b'⟩ | ⟨t3, t4, s', q, b'⟩
  · refine ⟨j, s', ?_, oj, b'⟩
    rw [show k + 11 = (k + 10) + 1 by omega, Cl, call_at φ22 rfl]
    exact fin_end (s_forR (items := rng 0 5) (es_cons rfl es_nil) rfl q)
  · refine ⟨J22, s', ?_, J22_ok, b'⟩
    rw [show k + 11 = (k + 10) + 1 by omega, Cl, call_at φ22 rfl]
    refine fin_end ((s_for (items := rng 0 5) (es_cons rfl es_nil) rfl q).trans (s_ret ?_))
    have e : enc J22 = .tuple [.str "par", .tuple [.tuple [.str "seq", .tuple [.int 5, .int (-3)]], .tuple [.str "copies", .int 2, .int (-1)]]] := rfl
    rw [e]
    exact e_tup (es_cons rfl (es_cons (e_tup (es_cons (e_tup (es_cons rfl (es_cons (e_tup (es_cons rfl (es_cons rfl es_nil)) rfl (Nat.le_of_ble_eq_true rfl)) es_nil)) rfl (Nat.le_of_ble_eq_true rfl)) (es_cons (e_tup (es_cons rfl (es_cons rfl (es_cons rfl es_nil))) rfl (Nat.le_of_ble_eq_true rfl)) es_nil)) rfl (Nat.le_of_ble_eq_true rfl)) es_nil)) rfl (Nat.le_of_ble_eq_true rfl)
end Tx.Pl
namespace Tx
open PySem Mi Pl
/-! ### names -/
theorem φn6 : ΦT ds 6 = some f6 := rfl
theorem φn7 : ΦT ds 7 = some f7 := rfl
theorem φn8 : ΦT ds 8 = some f8 := rfl
theorem φn9 : ΦT ds 9 = some f9 := rfl
theorem φn10 : ΦT ds 10 = some f10 := rfl
theorem φn11 : ΦT ds 11 = some f11 := rfl
def L26 : List Nat := [97, 98, 99, 100, 101, 102, 103, 104, 105, 106, 107, 108, 109, 110, 111, 112, 113, 114, 115, 116, 117, 118, 119, 120, 121, 122]
theorem c_ll : ("abcdefghijklmnopqrstuvwxyz" : Str) = sx L26 := by decide +kernel
theorem gU : GT gs 7 = some (.str "use") := rfl
theorem gL : GT gs 8 = some (.str (sx L26)) := by rw [← c_ll]; rfl
theorem gM8 : GT gs 9 = some (.int 8) := rfl
def let' (c : Nat) : Bool := decide (97 ≤ c) && decide (c ≤ 122)
theorem mem_L26 (c : Nat) : decide (c ∈ L26) = let' c := by
  rw [Bool.eq_iff_iff]
  unfold let' L26
  simp only [decide_eq_true_eq, Bool.and_eq_true, List.mem_cons, List.not_mem_nil, or_false]
  omega
def nm (l : List Nat) : Bool := decide (1 ≤ l.length ∧ l.length ≤ 8) && l.all let'
def nmD : PyData → Bool
  | .str x => nm (sg x)
  | _ => false
mutual
/-- texts within bounds -/
def sb : PyData → Bool
  | .str x => decide (x.length ≤ SZ)
  | .tuple xs => sbs xs
  | .list xs => sbs xs
  | _ => true
def sbs : List PyData → Bool
  | [] => true
  | x :: xs => sb x && sbs xs
end
theorem sbs_mem : ∀ {xs : List PyData} {x : PyData}, sbs xs = true → x ∈ xs → sb x = true
  | y :: ys, x, h, m => by
    rw [sbs, Bool.and_eq_true] at h
    rcases List.mem_cons.mp m with rfl | m
    · exact h.1
    · exact sbs_mem h.2 m
theorem sb_tup {xs : List PyData} (h : sb (.tuple xs) = true) : sbs xs = true := by rw [sb] at h; exact h
theorem bools_map (bs : List Bool) : boolsOf (bs.map .bool) = some bs := by
  induction bs with
  | nil => rfl
  | cons b bs ih =>
    show (boolsOf (bs.map .bool)).map (b :: ·) = _
    rw [ih]; rfl
section
variable {h : Sh}
theorem pn6' {k : Nat} {l : List Nat} (hl : l.length ≤ SZ) : Cl (k + 1) 6 [.d (.str (sx l))] h = .ok (.d (.bool (nm l))) h := by
  rw [Cl, call_at φn6 rfl]
  refine fin_end ?_
  have tc : tru (Ev k (.chain .LtE .LtE (.cst (.int 1)) (.bi .len [.var 0]) (.glob 9)) [.v (.d (.str (sx l))), .no] h) = .ok (decide (1 ≤ l.length ∧ l.length ≤ 8)) h := by
    refine (t_chain rfl (e_bi (es_cons rfl es_nil) rfl (len_sx hl)) (e_glob gM8) rfl rfl).trans ?_
    congr 1
    rw [Bool.eq_iff_iff]
    simp only [Bool.and_eq_true, decide_eq_true_eq]
    omega
  have ti : tru (Ev k (.not (.isi (.var 0) [.str])) [.v (.d (.str (sx l))), .no] h) = .ok false h := t_nF (t_isi (x := .str (sx l)) rfl rfl)
  unfold nm
  cases c : decide (1 ≤ l.length ∧ l.length ≤ 8) with
  | false =>
    rw [c] at tc
    exact s_ifT ((t_orF ti).trans (t_or1.trans (t_nT tc))) (s_ret rfl)
  | true =>
    rw [c] at tc
    refine (s_ifF ((t_orF ti).trans (t_or1.trans (t_nF tc)))).trans (s_ret ?_)
    have cz := comp_zip (C := Cf k) (G := GT gs) (tg := .n 1) (elt := Ev k (.cmp .In (.var 1) (.glob 8))) (env := [.v (.d (.str (sx l))), .no]) (l.map fun c => (PyData.str (sx [c]), PyData.bool (let' c))) (h := h) fun z m => by
      obtain ⟨c, _, rfl⟩ := List.mem_map.mp m
      exact ⟨_, rfl, e_cmp rfl (e_glob gL) (in_sx.trans (by rw [mem_L26]))⟩
    have a1 : ((l.map fun c => (PyData.str (sx [c]), PyData.bool (let' c))).map (·.1)) = l.map fun c => PyData.str (sx [c]) := by rw [List.map_map]; rfl
    have a2 : ((l.map fun c => (PyData.str (sx [c]), PyData.bool (let' c))).map (·.2)) = (l.map let').map .bool := by rw [List.map_map, List.map_map]; rfl
    rw [a1, a2] at cz
    refine e_bi (es_cons (e_comp (kk := .seq) (es_cons rfl es_nil) seq_sx (by rw [List.length_map]; exact hl) cz) es_nil) rfl ?_
    show (boolsOf ((l.map let').map .bool)).map (fun bs => PyData.bool (bs.all id)) = _
    rw [bools_map]
    show some (PyData.bool ((l.map let').all id)) = _
    rw [List.all_map, Bool.true_and]
    rfl
theorem pn6 {k : Nat} {d : PyData} (hd : sb d = true) : Cl (k + 1) 6 [.d d] h = .ok (.d (.bool (nmD d))) h := by
  cases d with
  | str x =>
    have : (sg x).length ≤ SZ := by
      rw [sb] at hd
      exact of_decide_eq_true hd
    have q := pn6' (h := h) (k := k) this
    rw [sx_sg] at q
    exact q
  | _ =>
    rw [Cl, call_at φn6 rfl]
    exact fin_end (s_ifT (h1 := h) (t_orT (t_nT (t_b rfl))) (s_ret rfl))
/-! ### measured, of definitions -/
def lim (a b : Int) : Option (Int × Int) := if a ≤ 400 ∧ b ≤ mxI then some (a, b) else none
theorem pn9 {k : Nat} (a b : Int) : Cl (k + 1) 9 [.d (.int a), .d (.int b)] h = .ok (.d (encM (lim a b))) h := by
  rw [Cl, call_at φn9 rfl]
  refine fin_end (s_ret ?_)
  have t : tru (Ev k (.and [.cmp .LtE (.var 0) (.glob 3), .cmp .LtE (.var 1) (.glob 1)]) [.v (.d (.int a)), .v (.d (.int b))] h) = .ok (decide (a ≤ 400) && decide (b ≤ mxI)) h :=
    t_and (t_cmp rfl (e_glob g3) rfl) fun _ => t_and1.trans (t_cmp rfl (e_glob g1) (by rw [mx]; rfl))
  rw [← Bool.decide_and] at t
  refine (e_ite t).trans ?_
  unfold lim
  by_cases c : a ≤ 400 ∧ b ≤ mxI
  · rw [decide_eq_true c, if_pos rfl, if_pos c]
    exact e_tup (es_cons rfl (es_cons rfl es_nil)) rfl (Nat.le_of_ble_eq_true rfl)
  · rw [decide_eq_false c, if_neg Bool.false_ne_true, if_neg c]
    rfl
end
def isU : PyData → Bool
  | .tuple (.str w :: _) => decide (w = ("use" : Str))
  | _ => false
def okU : PyData → Bool
  | .tuple [_, y] => nmD y
  | _ => false
mutual
def meas : Nat → PyData → Option (Int × Int)
  | 0, _ => none
  | n + 1, d => if btw (0 - mxI) mxI d then some (1, 1) else if isU d = true then (if okU d = true then some (1, 0) else none) else match d with
    | .tuple [.str w, .tuple ps] => if w = ("seq" : Str) ∨ w = ("par" : Str) then (if ps.length > 400 then none else measL n ps 1 0) else none
    | .tuple [.str w, c, x] => if w = ("repeat" : Str) ∨ w = ("copies" : Str) then (if btw 0 mxI c then (match meas n x with
      | none => none
      | some (a, b) => if a = 400 ∨ intOf c * b > mxI then none else some (1 + a, intOf c * b)) else none) else none
    | _ => none
def measL : Nat → List PyData → Int → Int → Option (Int × Int)
  | _, [], a, b => some (a, b)
  | n, x :: xs, a, b => match meas n x with
    | none => none
    | some (p, q) => if a + p > 400 ∨ b + q > mxI then none else measL n xs (a + p) (b + q)
end
mutual
theorem meas_ok : ∀ (n : Nat) (d : PyData), MOk (meas n d)
  | 0, d => fun a b e => by rw [meas] at e; cases e
  | n + 1, d => fun a b e => by
    unfold meas at e
    split at e
    · cases e
      exact ⟨by decide, by decide, by decide, by rw [mx]; decide⟩
    · split at e
      · split at e
        · cases e
          exact ⟨by decide, by decide, by decide, by rw [mx]; decide⟩
        · cases e
      · split at e
        · split at e
          · split at e
            · cases e
            · exact measL_ok n _ 1 0 ⟨by decide, by decide, by decide, by rw [mx]; decide⟩ a b e
          · cases e
        · split at e
          · split at e
            · rename_i hb
              obtain ⟨_, hb1, hb2⟩ := btw_int hb
              split at e
              · cases e
              · rename_i a' b' em
                obtain ⟨h1, h2, h3, h4⟩ := meas_ok n _ _ _ em
                split at e
                · cases e
                · rename_i hc
                  cases e
                  have hz := Int.mul_nonneg hb1 h3
                  rw [not_or] at hc
                  exact ⟨by omega, by omega, hz, by omega⟩
            · cases e
          · cases e
        · cases e
theorem measL_ok : ∀ (n : Nat) (xs : List PyData) (a b : Int), (1 ≤ a ∧ a ≤ 400 ∧ 0 ≤ b ∧ b ≤ mxI) → MOk (measL n xs a b)
  | _, [], a, b, hh => fun x y e => by
    rw [measL] at e
    cases e
    exact hh
  | n, x :: xs, a, b, hh => fun u v e => by
    rw [measL] at e
    split at e
    · cases e
    · rename_i p q em
      obtain ⟨h1, h2, h3, h4⟩ := meas_ok n x _ _ em
      split at e
      · cases e
      · rename_i hc
        rw [not_or] at hc
        exact measL_ok n xs _ _ ⟨by omega, by omega, by omega, by omega⟩ u v e
end
/-- the parts as the program adds them -/
def ads : Option (Int × Int) → Option (Int × Int) → Option (Int × Int)
  | none, _ => none
  | some _, none => none
  | some r, some s => lim (s.1 + r.1) (s.2 + r.2)
def mg (n : Nat) : List PyData → Option (Int × Int) → Option (Int × Int)
  | [], o => o
  | x :: xs, o => mg n xs (ads (meas n x) o)
theorem ads_none : ∀ r : Option (Int × Int), ads r none = none
  | none => rfl
  | some _ => rfl
theorem mg_none (n : Nat) : ∀ xs : List PyData, mg n xs none = none
  | [] => rfl
  | x :: xs => by rw [mg, ads_none, mg_none n xs]
theorem mg_some (n : Nat) : ∀ (xs : List PyData) (a b : Int), mg n xs (some (a, b)) = measL n xs a b
  | [], a, b => by rw [measL]; rfl
  | x :: xs, a, b => by
    rw [mg, measL]
    cases e : meas n x with
    | none => exact mg_none n xs
    | some r =>
      obtain ⟨p, q⟩ := r
      show mg n xs (lim (a + p) (b + q)) = (if a + p > 400 ∨ b + q > mxI then none else measL n xs (a + p) (b + q))
      unfold lim
      by_cases c : a + p > 400 ∨ b + q > mxI
      · rw [if_pos c, if_neg (by omega), mg_none]
      · rw [if_neg c, if_pos (by omega), mg_some n xs]
def body8 : List Ts := [.asg (.n 4) (.call 7 [.var 3, .bin .Sub (.var 1) (.cst (.int 1))]), .iff (.or [.cmp .Is (.var 4) (.cst .none), .cmp .Is (.var 2) (.cst .none)]) [.ret (.cst .none)] [], .asg (.n 2) (.call 9 [.bin .Add (.ix (.var 2) (.cst (.int 0))) (.ix (.var 4) (.cst (.int 0))), .bin .Add (.ix (.var 2) (.cst (.int 1))) (.ix (.var 4) (.cst (.int 1)))])]
section
variable {h : Sh}
theorem isN_encM (o : Option (Int × Int)) : isN (encM o) = o.isNone := by cases o <;> rfl
theorem loop8 {K n : Nat} {p : PyData} : ∀ (xs : List PyData) (o : Option (Int × Int)) (s3 s4 : Sl), (∀ x ∈ xs, Cl (K + 1) 7 [.d x, .d (.int n)] h = .ok (.d (encM (meas n x))) h) →
    (∃ t3 t4, forLoop (evSs (Cf (K + 1)) (GT gs) 50000 body8) (.n 3) (xs.map .d) [.v (.d p), .v (.d (.int ((n + 1 : Nat) : Int))), .v (.d (encM o)), s3, s4] h = .ok (.nx [.v (.d p), .v (.d (.int ((n + 1 : Nat) : Int))), .v (.d (encM (mg n xs o))), t3, t4]) h) ∨
    (forLoop (evSs (Cf (K + 1)) (GT gs) 50000 body8) (.n 3) (xs.map .d) [.v (.d p), .v (.d (.int ((n + 1 : Nat) : Int))), .v (.d (encM o)), s3, s4] h = .ok (.rt (.d .none)) h ∧ mg n xs o = none)
  | [], o, s3, s4, _ => .inl ⟨s3, s4, fl_nil⟩
  | x :: xs, o, s3, s4, hx => by
    have sub : Ev (K + 1) (.bin .Sub (.var 1) (.cst (.int 1))) [.v (.d p), .v (.d (.int ((n + 1 : Nat) : Int))), .v (.d (encM o)), .v (.d x), s4] h = .ok (.d (.int n)) h := by
      refine e_bin rfl rfl ?_
      show some (PyData.int (((n + 1 : Nat) : Int) - 1)) = _
      rw [show ((n + 1 : Nat) : Int) - 1 = (n : Int) by omega]
    have e1 : Ev (K + 1) (.call 7 [.var 3, .bin .Sub (.var 1) (.cst (.int 1))]) [.v (.d p), .v (.d (.int ((n + 1 : Nat) : Int))), .v (.d (encM o)), .v (.d x), s4] h = .ok (.d (encM (meas n x))) h := (e_call (es_cons rfl (es_cons sub es_nil))).trans (hx x List.mem_cons_self)
    have t4 : tru (Ev (K + 1) (.cmp .Is (.var 4) (.cst .none)) [.v (.d p), .v (.d (.int ((n + 1 : Nat) : Int))), .v (.d (encM o)), .v (.d x), .v (.d (encM (meas n x)))] h) = .ok (meas n x).isNone h := (t_cmp rfl rfl rfl).trans (by rw [isN_encM])
    have t2 : tru (Ev (K + 1) (.cmp .Is (.var 2) (.cst .none)) [.v (.d p), .v (.d (.int ((n + 1 : Nat) : Int))), .v (.d (encM o)), .v (.d x), .v (.d (encM (meas n x)))] h) = .ok o.isNone h := (t_cmp rfl rfl rfl).trans (by rw [isN_encM])
    cases em : meas n x with
    | none =>
      rw [em] at e1 t4 t2
      exact .inr ⟨fl_ret rfl ((s_asg e1 rfl).trans (s_ifT (t_orT t4) (s_ret rfl))), by rw [mg, em]; exact mg_none n xs⟩
    | some r =>
      rw [em] at e1 t4 t2
      cases o with
      | none => exact .inr ⟨fl_ret rfl ((s_asg e1 rfl).trans (s_ifT ((t_orF t4).trans (t_or1.trans t2)) (s_ret rfl))), by rw [mg, em]; exact mg_none n xs⟩
      | some ab =>
        obtain ⟨q1, q2⟩ := r
        obtain ⟨a, b⟩ := ab
        have nx : evSs (Cf (K + 1)) (GT gs) 50000 body8 [.v (.d p), .v (.d (.int ((n + 1 : Nat) : Int))), .v (.d (encM (some (a, b)))), .v (.d x), s4] h = .ok (.nx [.v (.d p), .v (.d (.int ((n + 1 : Nat) : Int))), .v (.d (encM (lim (a + q1) (b + q2)))), .v (.d x), .v (.d (encM (some (q1, q2))))]) h := by
          refine (s_asg e1 rfl).trans ((s_ifF ((t_orF t4).trans (t_or1.trans t2))).trans ((s_asg ((e_call (es_cons rfl (es_cons rfl es_nil))).trans (pn9 (k := K) (a + q1) (b + q2))) rfl).trans ss_nil))
        have e2 : mg n (x :: xs) (some (a, b)) = mg n xs (lim (a + q1) (b + q2)) := by rw [mg, em]; rfl
        rcases loop8 (K := K) (n := n) (p := p) xs (lim (a + q1) (b + q2)) (.v (.d x)) (.v (.d (encM (some (q1, q2))))) fun y m => hx y (List.mem_cons_of_mem _ m) with ⟨t3, t4', q⟩ | ⟨q, e3⟩
        · exact .inl ⟨t3, t4', by rw [e2]; exact fl_next rfl nx q⟩
        · exact .inr ⟨fl_next rfl nx q, by rw [e2]; exact e3⟩
theorem pn8 {n K : Nat} {d : PyData} (hx : ∀ x, sb x = true → Cl (K + 1) 7 [.d x, .d (.int n)] h = .ok (.d (encM (meas n x))) h) (hd : sb d = true) :
    Cl (K + 2) 8 [.d d, .d (.int ((n + 1 : Nat) : Int))] h = .ok (.d (encM (match d with
      | .tuple ps => if ps.length > 400 then none else measL n ps 1 0
      | _ => none))) h := by
  rw [show K + 2 = (K + 1) + 1 from rfl, Cl, call_at φn8 rfl]
  refine fin_end ?_
  cases d with
  | tuple ps =>
    have tl : tru (Ev (K + 1) (.cmp .Gt (.bi .len [.var 0]) (.glob 2)) [.v (.d (.tuple ps)), .v (.d (.int ((n + 1 : Nat) : Int))), .no, .no, .no] h) = .ok (decide ((400 : Int) < ps.length)) h := t_cmp rfl (e_glob g2) rfl
    dsimp only
    by_cases c : ps.length > 400
    · rw [if_pos c]
      exact s_ifT (h1 := h) ((t_orF (t_nF (t_b rfl))).trans (t_or1.trans (tl.trans (by rw [decide_eq_true (by omega)])))) (s_ret rfl)
    · rw [if_neg c]
      have tup : Ev (K + 1) (.tup [.cst (.int 1), .cst (.int 0)]) [.v (.d (.tuple ps)), .v (.d (.int ((n + 1 : Nat) : Int))), .no, .no, .no] h = .ok (.d (encM (some (1, 0)))) h := e_tup (es_cons rfl (es_cons rfl es_nil)) rfl (Nat.le_of_ble_eq_true rfl)
      refine (s_ifF (h1 := h) ((t_orF (t_nF (t_b rfl))).trans (t_or1.trans (tl.trans (by rw [decide_eq_false (by omega)]))))).trans ((s_asg tup rfl).trans ?_)
      rw [← mg_some]
      rcases loop8 (p := .tuple ps) (h := h) (n := n) (K := K) ps (some (1, 0)) .no .no fun x m => hx x (sbs_mem (sb_tup hd) m) with ⟨t3, t4, q⟩ | ⟨q, e⟩
      · exact (s_for rfl rfl q).trans (s_ret rfl)
      · rw [e]
        exact s_forR rfl rfl q
  | _ => exact s_ifT (h1 := h) (t_orT (t_nT (t_b rfl))) (s_ret rfl)
end
end Tx
namespace Tx
open PySem Mi Pl
theorem meas_use {n : Nat} {d : PyData} (hb : btw (0 - mxI) mxI d = false) (hu : isU d = true) : meas (n + 1) d = if okU d = true then some (1, 0) else none := by
  unfold meas
  rw [hb, if_neg Bool.false_ne_true, if_pos hu]
theorem meas_big {n : Nat} {d : PyData} (hb : btw (0 - mxI) mxI d = true) : meas (n + 1) d = some (1, 1) := by
  unfold meas
  rw [hb, if_pos rfl]
theorem meas_gr {n : Nat} {w : Str} {ps : List PyData} (hw : w = ("seq" : Str) ∨ w = ("par" : Str)) (hu : isU (.tuple [.str w, .tuple ps]) = false) : meas (n + 1) (.tuple [.str w, .tuple ps]) = if ps.length > 400 then none else measL n ps 1 0 := by
  rw [meas.eq_def]
  dsimp only
  rw [show btw (0 - mxI) mxI (.tuple [.str w, .tuple ps]) = false from rfl, if_neg Bool.false_ne_true, hu, if_neg Bool.false_ne_true, if_pos hw]
theorem meas_ml {n : Nat} {w : Str} {c x : PyData} (hw : w = ("repeat" : Str) ∨ w = ("copies" : Str)) (hu : isU (.tuple [.str w, c, x]) = false) : meas (n + 1) (.tuple [.str w, c, x]) = (if btw 0 mxI c then (match meas n x with
      | none => none
      | some (a, b) => if a = 400 ∨ intOf c * b > mxI then none else some (1 + a, intOf c * b)) else none) := by
  rw [meas.eq_def]
  dsimp only
  rw [show btw (0 - mxI) mxI (.tuple [.str w, c, x]) = false from rfl, if_neg Bool.false_ne_true, hu, if_neg Bool.false_ne_true]
  cases c <;> exact if_pos hw
theorem meas_other {n : Nat} {d : PyData} (hb : btw (0 - mxI) mxI d = false) (h : ∀ w r, d ≠ .tuple (.str w :: r)) : meas (n + 1) d = none := by
  unfold meas
  have hu : isU d = false := by
    unfold isU
    split
    · exact (h _ _ rfl).elim
    · rfl
  rw [hb, if_neg Bool.false_ne_true, hu, if_neg Bool.false_ne_true]
  split
  · exact (h _ _ rfl).elim
  · exact (h _ _ rfl).elim
  · rfl
theorem okU_len {w : Str} {r : List PyData} (h : r.length ≠ 1) : okU (.tuple (.str w :: r)) = false := by
  rcases r with _ | ⟨y, _ | ⟨z, q⟩⟩
  · rfl
  · exact (h rfl).elim
  · rfl
theorem pn7 : ∀ (n : Nat) (d : PyData) (k : Nat) (h : Sh), sb d = true → Cl (k + 2 * n + 3) 7 [.d d, .d (.int n)] h = .ok (.d (encM (meas n d))) h
  | 0, d, k, h, _ => by
    rw [Cl, call_at φn7 rfl]
    refine fin_end (s_ifT (h1 := h) (t_cmp rfl rfl rfl) ((s_ret rfl).trans ?_))
    unfold meas
    rfl
  | n + 1, d, k, h, hs => by
    rw [Cl, call_at φn7 rfl]
    refine fin_end ?_
    have eK : k + 2 * (n + 1) + 2 = (k + 2 * n + 3) + 1 := by omega
    show evSs (Cf (k + 2 * (n + 1) + 2)) (GT gs) 50000 f7.body [.v (.d d), .v (.d (.int ((n + 1 : Nat) : Int))), .no] h = _
    rw [eK]
    have z0 : decide (((n + 1 : Nat) : Int) = 0) = false := decide_eq_false (by omega)
    refine (s_ifF (h1 := h) (t_cmp rfl rfl (cmp_eq.trans (eq_int.trans (by rw [z0]))))).trans ?_
    have tb : tru (Ev (k + 2 * n + 3 + 1) (.call 1 [.var 0, .bin .Sub (.cst (.int 0)) (.glob 0), .glob 0]) [.v (.d d), .v (.d (.int ((n + 1 : Nat) : Int))), .no] h) = .ok (btw (0 - mxI) mxI d) h := by
      refine t_b ((e_call rfl).trans ?_)
      rw [mx]
      exact p1 (k := k + 2 * n + 2) d _ _ h
    cases hb : btw (0 - mxI) mxI d with
    | true =>
      rw [hb] at tb
      refine s_ifT tb ((s_ret rfl).trans ?_)
      rw [meas_big hb]
      rfl
    | false =>
      rw [hb] at tb
      refine (s_ifF tb).trans ?_
      have other : (∀ w r, d ≠ .tuple (.str w :: r)) → tru (Ev (k + 2 * n + 3 + 1) (.or [.not (.isi (.var 0) [.tuple]), .cmp .Eq (.var 0) (.tup []), .not (.isi (.ix (.var 0) (.cst (.int 0))) [.str])]) [.v (.d d), .v (.d (.int ((n + 1 : Nat) : Int))), .no] h) = .ok true h := fun hn => by
        cases d with
        | tuple xs =>
          refine (t_orF (h1 := h) (t_nF (t_b rfl))).trans ?_
          cases xs with
          | nil => exact t_orT (t_cmp rfl rfl rfl)
          | cons x xs =>
            refine (t_orF (h1 := h) (t_cmp rfl rfl rfl)).trans (t_or1.trans ?_)
            cases x with
            | str w => exact (hn w xs rfl).elim
            | _ => exact t_nT (t_isi (e_ix rfl rfl ix_0) rfl)
        | _ => exact t_orT (t_nT (t_b rfl))
      by_cases hd : ∃ w r, d = .tuple (.str w :: r)
      · obtain ⟨w, r, rfl⟩ := hd
        have first : Ev (k + 2 * n + 3 + 1) (.ix (.var 0) (.cst (.int 0))) [.v (.d (.tuple (.str w :: r))), .v (.d (.int ((n + 1 : Nat) : Int))), .no] h = .ok (.d (.str w)) h := e_ix rfl rfl ix_0
        refine (s_ifF (h1 := h) ((t_orF (t_nF (t_b rfl))).trans ((t_orF (t_cmp rfl rfl rfl)).trans (t_or1.trans (t_nF (t_isi first rfl)))))).trans ?_
        have len : ∀ m : Nat, tru (Ev (k + 2 * n + 3 + 1) (.cmp .Eq (.bi .len [.var 0]) (.cst (.int m))) [.v (.d (.tuple (.str w :: r))), .v (.d (.int ((n + 1 : Nat) : Int))), .no] h) = .ok (decide ((PyData.str w :: r).length = m)) h := fun m => t_cmp rfl rfl (cmp_eq.trans len_eq)
        have tu : tru (Ev (k + 2 * n + 3 + 1) (.cmp .Eq (.ix (.var 0) (.cst (.int 0))) (.glob 7)) [.v (.d (.tuple (.str w :: r))), .v (.d (.int ((n + 1 : Nat) : Int))), .no] h) = .ok (decide (w = ("use" : Str))) h := t_cmp first (e_glob gU) (cmp_eq.trans eq_str)
        by_cases cu : w = ("use" : Str)
        · have hu : isU (.tuple (.str w :: r)) = true := decide_eq_true cu
          rw [meas_use hb hu]
          refine s_ifT (tu.trans (by rw [decide_eq_true cu])) (s_ret ?_)
          by_cases l2 : r.length = 1
          · obtain ⟨y, rfl⟩ : ∃ y, r = [y] := by
              rcases r with _ | ⟨y, _ | ⟨z, q⟩⟩
              · cases l2
              · exact ⟨y, rfl⟩
              · cases l2
            have sy : sb y = true := sbs_mem (sb_tup hs) (by simp)
            have c6 : tru (Ev (k + 2 * n + 3 + 1) (.call 6 [.ix (.var 0) (.cst (.int 1))]) [.v (.d (.tuple [.str w, y])), .v (.d (.int ((n + 1 : Nat) : Int))), .no] h) = .ok (nmD y) h := t_b ((e_call (es_cons (e_ix rfl rfl ix_1) es_nil)).trans (pn6 (k := k + 2 * n + 3) sy))
            refine (e_ite (t_and (len 2) fun _ => t_and1.trans c6)).trans ?_
            show (if (decide ((2 : Nat) = 2) && nmD y) = true then _ else _) = _
            rw [decide_eq_true rfl, Bool.true_and]
            show _ = R.ok (Vl.d (encM (if nmD y = true then some (1, 0) else none))) h
            cases nmD y with
            | true => exact e_tup (es_cons rfl (es_cons rfl es_nil)) rfl (Nat.le_of_ble_eq_true rfl)
            | false => rfl
          · rw [okU_len l2]
            have lf : decide ((PyData.str w :: r).length = 2) = false := decide_eq_false (by rw [List.length_cons]; omega)
            refine (e_ite (v := false) ((t_and (w := false) (len 2) fun z => ?_).trans (by rw [lf]; rfl))).trans rfl
            rw [lf] at z; cases z
        · have hu : isU (.tuple (.str w :: r)) = false := decide_eq_false cu
          refine (s_ifF (tu.trans (by rw [decide_eq_false cu]))).trans ?_
          have t4 : tru (Ev (k + 2 * n + 3 + 1) (.and [.cmp .In (.ix (.var 0) (.cst (.int 0))) (.glob 5), .cmp .Eq (.bi .len [.var 0]) (.cst (.int 2))]) [.v (.d (.tuple (.str w :: r))), .v (.d (.int ((n + 1 : Nat) : Int))), .no] h) = .ok (decide (w ∈ [("seq" : Str), "par"]) && decide ((PyData.str w :: r).length = 2)) h :=
            t_and (cmp_in first g5) fun _ => t_and1.trans (len 2)
          have t5a := cmp_in (ys := [("repeat" : Str), "copies"]) first g6
          have r4 := fun d => pn8 (n := n) (K := k + 2 * n + 2) (d := d) (h := h) fun x sx' => pn7 n x k h sx'
          by_cases m4 : w ∈ [("seq" : Str), "par"] ∧ (PyData.str w :: r).length = 2
          · rw [decide_eq_true m4.1, decide_eq_true m4.2] at t4
            obtain ⟨y, rfl⟩ : ∃ y, r = [y] := by
              rcases r with _ | ⟨y, _ | ⟨z, q⟩⟩
              · cases m4.2
              · exact ⟨y, rfl⟩
              · cases m4.2
            have sy : sb y = true := sbs_mem (sb_tup hs) (by simp)
            refine s_ifT t4 (s_ret ((e_call (es_cons (e_ix rfl rfl ix_1) (es_cons rfl es_nil))).trans ((r4 y sy).trans ?_)))
            have mw : w = ("seq" : Str) ∨ w = ("par" : Str) := by simpa using m4.1
            cases y with
            | tuple ps => rw [meas_gr mw hu]
            | _ =>
              unfold meas
              rw [hb, if_neg Bool.false_ne_true, hu, if_neg Bool.false_ne_true]
          · refine (s_ifF (t4.trans (by rw [← Bool.decide_and, decide_eq_false m4]))).trans ?_
            have nomeas : (∀ c x, r = [c, x] → ¬ (w = ("repeat" : Str) ∨ w = ("copies" : Str)) ∨ btw 0 mxI c = false) → meas (n + 1) (.tuple (.str w :: r)) = none := fun hn => by
              unfold meas
              rw [hb, if_neg Bool.false_ne_true, hu, if_neg Bool.false_ne_true]
              split
              · rename_i w' ps hq
                cases hq
                rw [if_neg fun z => m4 ⟨by simpa using z, rfl⟩]
              · rename_i w' c x hq
                cases hq
                rcases hn _ _ rfl with z | z
                · rw [if_neg z]
                · rw [z]; split <;> rfl
              · rfl
            by_cases m5 : w ∈ [("repeat" : Str), "copies"] ∧ (PyData.str w :: r).length = 3
            · obtain ⟨c, x, rfl⟩ : ∃ c x, r = [c, x] := by
                rcases r with _ | ⟨y, _ | ⟨z, _ | ⟨u, q⟩⟩⟩
                · cases m5.2
                · cases m5.2
                · exact ⟨y, z, rfl⟩
                · cases m5.2
              have mw : w = ("repeat" : Str) ∨ w = ("copies" : Str) := by simpa using m5.1
              have tb1 : tru (Ev (k + 2 * n + 3 + 1) (.call 1 [.ix (.var 0) (.cst (.int 1)), .cst (.int 0), .glob 1]) [.v (.d (.tuple [.str w, c, x])), .v (.d (.int ((n + 1 : Nat) : Int))), .no] h) = .ok (btw 0 mxI c) h := by
                refine t_b ((e_call (es_cons (e_ix rfl rfl ix_1) (es_cons rfl (es_cons (e_glob g1) es_nil)))).trans ?_)
                rw [mx]
                exact p1 (k := k + 2 * n + 2) c _ _ h
              have t5 : tru (Ev (k + 2 * n + 3 + 1) (.and [.cmp .In (.ix (.var 0) (.cst (.int 0))) (.glob 6), .cmp .Eq (.bi .len [.var 0]) (.cst (.int 3)), .call 1 [.ix (.var 0) (.cst (.int 1)), .cst (.int 0), .glob 1]]) [.v (.d (.tuple [.str w, c, x])), .v (.d (.int ((n + 1 : Nat) : Int))), .no] h) = .ok (decide (w ∈ [("repeat" : Str), "copies"]) && (decide ((3 : Nat) = 3) && btw 0 mxI c)) h :=
                t_and t5a fun _ => t_and (len 3) fun _ => t_and1.trans tb1
              rw [decide_eq_true m5.1, decide_eq_true rfl, Bool.true_and, Bool.true_and] at t5
              cases hc : btw 0 mxI c with
              | false =>
                rw [hc] at t5
                refine (s_ifF t5).trans ((s_ret rfl).trans ?_)
                rw [nomeas fun c' x' e => by cases e; exact .inr hc]
                rfl
              | true =>
                rw [hc] at t5
                obtain ⟨ec, c0, c1⟩ := btw_int hc
                have sx' : sb x = true := sbs_mem (sb_tup hs) (by simp)
                have e1 : Ev (k + 2 * n + 3 + 1) (.call 7 [.ix (.var 0) (.cst (.int 2)), .bin .Sub (.var 1) (.cst (.int 1))]) [.v (.d (.tuple [.str w, c, x])), .v (.d (.int ((n + 1 : Nat) : Int))), .no] h = .ok (.d (encM (meas n x))) h := by
                  refine (e_call (es_cons (e_ix rfl rfl ix_2) (es_cons (e_bin rfl rfl rfl) es_nil))).trans ?_
                  rw [show ((n + 1 : Nat) : Int) - 1 = (n : Int) by omega, show k + 2 * n + 3 + 1 = (k + 1) + 2 * n + 3 by omega]
                  exact pn7 n x (k + 1) h sx'
                rw [meas_ml mw hu, hc, if_pos rfl]
                refine s_ifT t5 ((s_asg e1 rfl).trans (s_ret ?_))
                cases q : meas n x with
                | none => exact (e_ite (v := true) (t_cmp rfl rfl rfl)).trans rfl
                | some ab =>
                  obtain ⟨a, b⟩ := ab
                  obtain ⟨h1, h2, h3, h4⟩ := meas_ok n x a b q
                  have ix1 : Ev (k + 2 * n + 3 + 1) (.ix (.var 0) (.cst (.int 1))) [.v (.d (.tuple [.str w, c, x])), .v (.d (.int ((n + 1 : Nat) : Int))), .v (.d (encM (some (a, b))))] h = .ok (.d (.int (intOf c))) h := by
                    rw [ec]
                    exact e_ix rfl rfl ix_1
                  have mul : Ev (k + 2 * n + 3 + 1) (.bin .Mult (.ix (.var 0) (.cst (.int 1))) (.ix (.var 2) (.cst (.int 1)))) [.v (.d (.tuple [.str w, c, x])), .v (.d (.int ((n + 1 : Nat) : Int))), .v (.d (encM (some (a, b))))] h = .ok (.d (.int (intOf c * b))) h := by
                    refine e_bin ix1 (e_ix (x := .tuple [.int a, .int b]) rfl rfl ix_1) ?_
                    show (if okI (intOf c) && okI b then some (PyData.int (intOf c * b)) else none) = _
                    rw [lim_ok c0 c1, lim_ok h3 h4]
                    rfl
                  have ad : Ev (k + 2 * n + 3 + 1) (.bin .Add (.cst (.int 1)) (.ix (.var 2) (.cst (.int 0)))) [.v (.d (.tuple [.str w, c, x])), .v (.d (.int ((n + 1 : Nat) : Int))), .v (.d (encM (some (a, b))))] h = .ok (.d (.int (1 + a))) h := e_bin rfl (e_ix (x := .tuple [.int a, .int b]) rfl rfl ix_0) rfl
                  refine (e_ite (v := false) (t_cmp rfl rfl rfl)).trans ((if_neg Bool.false_ne_true).trans ((e_call (es_cons ad (es_cons mul es_nil))).trans ((pn9 (k := k + 2 * n + 3) (1 + a) (intOf c * b)).trans ?_)))
                  congr 3
                  unfold lim
                  dsimp only
                  by_cases cc : a = 400 ∨ intOf c * b > mxI
                  · rw [if_pos cc, if_neg (by omega)]
                  · rw [if_neg cc, if_pos (by omega)]
            · have t5 : tru (Ev (k + 2 * n + 3 + 1) (.and [.cmp .In (.ix (.var 0) (.cst (.int 0))) (.glob 6), .cmp .Eq (.bi .len [.var 0]) (.cst (.int 3)), .call 1 [.ix (.var 0) (.cst (.int 1)), .cst (.int 0), .glob 1]]) [.v (.d (.tuple (.str w :: r))), .v (.d (.int ((n + 1 : Nat) : Int))), .no] h) = .ok false h := by
                by_cases mi : w ∈ [("repeat" : Str), "copies"]
                · have lf : ¬ (PyData.str w :: r).length = 3 := fun z => m5 ⟨mi, z⟩
                  refine (t_and (w := false) t5a fun _ => (t_and (w := false) (len 3) fun z => ?_).trans ?_).trans (by rw [decide_eq_true mi]; rfl)
                  · rw [decide_eq_false lf] at z; cases z
                  · rw [decide_eq_false lf]; rfl
                · refine (t_and (w := false) t5a fun z => ?_).trans (by rw [decide_eq_false mi]; rfl)
                  rw [decide_eq_false mi] at z; cases z
              refine (s_ifF t5).trans ((s_ret rfl).trans ?_)
              rw [nomeas fun c x e => .inl fun z => m5 ⟨by simpa using z, by rw [e]; rfl⟩]
              rfl
      · have hn : ∀ w r, d ≠ .tuple (.str w :: r) := fun w r e => hd ⟨w, r, e⟩
        refine s_ifT (other hn) ((s_ret rfl).trans ?_)
        rw [meas_other hb hn]
        rfl
theorem pn11 {k : Nat} {d : PyData} {h : Sh} (hd : sb d = true) : Cl (k + 31) 11 [.d d] h = .ok (.d (.bool (meas 13 d).isSome)) h := by
  rw [Cl, call_at φn11 rfl]
  refine fin_end (s_ret ((e_call rfl).trans ?_))
  show Cl (k + 29 + 1) 10 _ _ = _
  rw [Cl, call_at φn10 rfl]
  refine fin_end (s_ret ?_)
  have q : Ev (k + 29) (.call 7 [.var 0, .glob 4]) [.v (.d d)] h = .ok (.d (encM (meas 13 d))) h := (e_call (es_cons rfl (es_cons (e_glob (show GT gs 4 = some (.int 13) from rfl)) es_nil))).trans (pn7 13 d k h hd)
  refine e_cmp q rfl (show some (!isN (encM (meas 13 d))) = _ from ?_)
  cases meas 13 d <;> rfl
end Tx
namespace Tx
open PySem Mi Pl
/-- definitions: jobs with uses -/
inductive Jb where
  | st (i : Int)
  | us (l : List Nat)
  | gr (w : Str) (ps : List Jb)
  | ml (w : Str) (c : Int) (j : Jb)
mutual
def enc : Jb → PyData
  | .st i => .int i
  | .us l => .tuple [.str "use", .str (sx l)]
  | .gr w ps => .tuple [.str w, .tuple (encs ps)]
  | .ml w c j => .tuple [.str w, .int c, enc j]
def encs : List Jb → List PyData
  | [] => []
  | j :: r => enc j :: encs r
end
mutual
/-- nodes -/
def jn : Jb → Nat
  | .st _ => 1
  | .us _ => 1
  | .gr _ ps => 1 + jns ps
  | .ml _ _ j => 1 + jn j
def jns : List Jb → Nat
  | [] => 0
  | j :: r => jn j + jns r
/-- steps, at most -/
def js : Jb → Int
  | .st _ => 1
  | .us _ => 0
  | .gr _ ps => jss ps
  | .ml _ c j => (if c < 1 then 1 else c) * js j
def jss : List Jb → Int
  | [] => 0
  | j :: r => js j + jss r
end
theorem encs_map : ∀ ps : List Jb, encs ps = ps.map enc
  | [] => by rw [encs]; rfl
  | j :: r => by rw [encs, encs_map r]; rfl
theorem encs_len (ps : List Jb) : (encs ps).length = ps.length := by rw [encs_map, List.length_map]
/-- definitions of n levels at most, within the bounds of parts, steps and counts -/
def JW : Nat → Jb → Prop
  | 0, _ => False
  | _ + 1, .st i => -mxI ≤ i ∧ i ≤ mxI
  | _ + 1, .us l => nm l = true
  | n + 1, .gr w ps => isG w ∧ ps.length ≤ 400 ∧ ∀ p ∈ ps, JW n p
  | n + 1, .ml w c j => isM w ∧ (0 ≤ c ∧ c ≤ mxI) ∧ JW n j
theorem jn_pos : ∀ j : Jb, 1 ≤ jn j := fun j => by cases j <;> rw [jn] <;> omega
theorem JW.mono : ∀ {n m : Nat} {j : Jb}, JW n j → n ≤ m → JW m j
  | 0, _, j, h, _ => by rw [JW] at h; exact h.elim
  | n + 1, 0, j, h, l => absurd l (by omega)
  | n + 1, m + 1, .st i, h, l => by rw [JW] at h ⊢; exact h
  | n + 1, m + 1, .us i, h, l => by rw [JW] at h ⊢; exact h
  | n + 1, m + 1, .gr w ps, h, l => by rw [JW] at h ⊢; exact ⟨h.1, h.2.1, fun p mm => (h.2.2 p mm).mono (by omega)⟩
  | n + 1, m + 1, .ml w c j, h, l => by rw [JW] at h ⊢; exact ⟨h.1, h.2.1, h.2.2.mono (by omega)⟩
theorem not_useG {w : Str} (h : w = ("seq" : Str) ∨ w = ("par" : Str)) : decide (w = ("use" : Str)) = false := by rcases h with rfl | rfl <;> decide +kernel
theorem not_useM {w : Str} (h : w = ("repeat" : Str) ∨ w = ("copies" : Str)) : decide (w = ("use" : Str)) = false := by rcases h with rfl | rfl <;> decide +kernel
mutual
theorem meas_enc : ∀ (n : Nat) (d : PyData) (a b : Int), meas n d = some (a, b) → ∃ j, d = enc j ∧ JW n j ∧ a = jn j ∧ a ≤ 400
  | 0, d, a, b, h => by rw [meas] at h; cases h
  | n + 1, d, a, b, h => by
    unfold meas at h
    by_cases c : btw (0 - mxI) mxI d = true
    · rw [if_pos c] at h
      cases h
      obtain ⟨e, l1, l2⟩ := btw_int c
      exact ⟨.st (intOf d), by rw [enc]; exact e, by rw [JW]; omega, by rw [jn]; rfl, by decide⟩
    · rw [if_neg c] at h
      by_cases u : isU d = true
      · rw [if_pos u] at h
        split at h
        · rename_i ok
          cases h
          cases d with
          | tuple xs =>
            rcases xs with _ | ⟨x, _ | ⟨y, _ | ⟨z, q⟩⟩⟩
            · cases ok
            · cases ok
            · cases x with
              | str w =>
                have e : w = ("use" : Str) := of_decide_eq_true u
                cases y with
                | str v =>
                  refine ⟨.us (sg v), by rw [enc, sx_sg, e], by rw [JW]; exact ok, by rw [jn]; rfl, by decide⟩
                | _ => cases ok
              | _ => cases u
            · cases ok
          | _ => cases u
        · cases h
      · rw [if_neg u] at h
        split at h
        · rename_i w ps
          split at h
          · rename_i hw
            split at h
            · cases h
            · rename_i hl
              obtain ⟨js', e, hj, ha, h4⟩ := measL_enc n ps 1 0 a b h
              refine ⟨.gr w js', by rw [enc, e], by rw [JW]; exact ⟨hw, by rw [e, encs_len] at hl; omega, hj⟩, by rw [jn, ha]; omega, h4 (by decide)⟩
          · cases h
        · rename_i w c' x
          split at h
          · rename_i hw
            split at h
            · rename_i hc
              split at h
              · cases h
              · rename_i p q hm
                split at h
                · cases h
                · rename_i hn
                  cases h
                  obtain ⟨j, e, hj, ha, h4⟩ := meas_enc n x p q hm
                  obtain ⟨e1, l1, l2⟩ := btw_int hc
                  refine ⟨.ml w (intOf c') j, by rw [enc, e, ← e1], by rw [JW]; exact ⟨hw, ⟨l1, l2⟩, hj⟩, by rw [jn, ha]; omega, by omega⟩
            · cases h
          · cases h
        · cases h
theorem measL_enc : ∀ (n : Nat) (xs : List PyData) (a0 b0 a b : Int), measL n xs a0 b0 = some (a, b) → ∃ l, xs = encs l ∧ (∀ j ∈ l, JW n j) ∧ a = a0 + jns l ∧ (a0 ≤ 400 → a ≤ 400)
  | n, [], a0, b0, a, b, h => by
    rw [measL] at h
    cases h
    exact ⟨[], by rw [encs], fun j m => (List.not_mem_nil m).elim, by rw [jns]; omega, fun h => h⟩
  | n, x :: xs, a0, b0, a, b, h => by
    rw [measL] at h
    split at h
    · cases h
    · rename_i p q hm
      split at h
      · cases h
      · rename_i hc
        obtain ⟨j, e, hj, ha, h4⟩ := meas_enc n x p q hm
        obtain ⟨l, e2, hl, ha2, h5⟩ := measL_enc n xs _ _ a b h
        refine ⟨j :: l, by rw [encs, e, e2], fun i m => ?_, by rw [jns, ha2, ha]; omega, fun _ => h5 (by omega)⟩
        rcases List.mem_cons.mp m with rfl | m
        · exact hj
        · exact hl i m
end
/-- what a definition is, of data -/
theorem isjob_enc {d : PyData} (h : (meas 13 d).isSome = true) : ∃ j, d = enc j ∧ JW 13 j ∧ jn j ≤ 400 := by
  cases e : meas 13 d with
  | none => rw [e] at h; cases h
  | some r =>
    obtain ⟨j, e1, e2, e3, e4⟩ := meas_enc 13 d r.1 r.2 e
    exact ⟨j, e1, e2, by omega⟩
/-! ### definitions that are made -/
mutual
theorem js_nn : ∀ (j : Jb), 0 ≤ js j
  | .st i => by rw [js]; decide
  | .us i => by rw [js]; decide
  | .gr w ps => by
    rw [js]
    exact jss_nn ps
  | .ml w c j => by
    rw [js]
    exact Int.mul_nonneg (by split <;> omega) (js_nn j)
theorem jss_nn : ∀ (ps : List Jb), 0 ≤ jss ps
  | [] => by rw [jss]; decide
  | p :: ps => by
    have a := js_nn p
    have b := jss_nn ps
    rw [jss]
    omega
end
mutual
theorem meas_of : ∀ (n : Nat) (j : Jb), JW n j → jn j ≤ 400 → js j ≤ mxI → ∃ b, meas n (enc j) = some ((jn j : Int), b) ∧ 0 ≤ b ∧ b ≤ js j
  | 0, j, h, _, _ => by rw [JW] at h; exact h.elim
  | n + 1, .st i, h, l1, l2 => by
    rw [JW] at h
    refine ⟨1, ?_, by decide, by rw [js]; decide⟩
    rw [enc]
    unfold meas
    rw [btw_t (by omega) h.2, jn]
    rfl
  | n + 1, .us l, h, l1, l2 => by
    rw [JW] at h
    refine ⟨0, ?_, by decide, by rw [js]; decide⟩
    rw [enc, meas_use (d := .tuple [.str "use", .str (sx l)]) rfl (show decide (("use" : Str) = ("use" : Str)) = true from decide_eq_true rfl), show okU (.tuple [.str "use", .str (sx l)]) = nm l from rfl, h, jn]
    rfl
  | n + 1, .gr w ps, h, l1, l2 => by
    rw [JW] at h
    rw [jn] at l1
    rw [js] at l2
    obtain ⟨b, q, b0, b1⟩ := measL_of n ps 1 0 h.2.2 (by omega) (by omega) (by decide) (by decide)
    refine ⟨b, ?_, b0, by rw [js]; omega⟩
    rw [enc, meas_gr h.1 (not_useG h.1), if_neg (by rw [encs_len]; have := h.2.1; omega), q, jn]
    congr 2
  | n + 1, .ml w c j, h, l1, l2 => by
    rw [JW] at h
    rw [jn] at l1
    rw [js] at l2
    have nn := js_nn j
    have c0 := h.2.1
    have k1 : 1 * js j ≤ (if c < 1 then 1 else c) * js j := Int.mul_le_mul_of_nonneg_right (by split <;> omega) nn
    obtain ⟨b, q, b0, b1⟩ := meas_of n j h.2.2 (by omega) (by omega)
    have k2 : c * b ≤ (if c < 1 then 1 else c) * js j := Int.mul_le_mul (by split <;> omega) b1 b0 (by split <;> omega)
    refine ⟨c * b, ?_, Int.mul_nonneg c0.1 b0, by rw [js]; exact k2⟩
    rw [enc, meas_ml h.1 (not_useM h.1), btw_t c0.1 c0.2, if_pos rfl, q]
    dsimp only
    rw [if_neg (by show ¬ ((jn j : Int) = 400 ∨ c * b > mxI); omega), jn]
    congr 2
theorem measL_of : ∀ (n : Nat) (ps : List Jb) (a b : Int), (∀ p ∈ ps, JW n p) → a + jns ps ≤ 400 → b + jss ps ≤ mxI → 0 ≤ a → 0 ≤ b → ∃ b', measL n (encs ps) a b = some (a + jns ps, b') ∧ b ≤ b' ∧ b' ≤ b + jss ps
  | n, [], a, b, _, _, _, _, _ => by
    refine ⟨b, ?_, by omega, by rw [jss]; omega⟩
    rw [encs, measL, jns]
    congr 2
    omega
  | n, p :: ps, a, b, h, l1, l2, ha, hb => by
    rw [jns] at l1
    rw [jss] at l2
    have nn := js_nn p
    have nn2 := jss_nn ps
    obtain ⟨b1, q, c0, c1⟩ := meas_of n p (h p List.mem_cons_self) (by omega) (by omega)
    obtain ⟨b2, ih, d0, d1⟩ := measL_of n ps (a + jn p) (b + b1) (fun q m => h q (List.mem_cons_of_mem _ m)) (by omega) (by omega) (by omega) (by omega)
    refine ⟨b2, ?_, by omega, by rw [jss]; omega⟩
    rw [encs, measL, q]
    dsimp only
    rw [if_neg (by omega), ih, jns]
    congr 2
    omega
end
theorem isjob_of {n : Nat} {j : Jb} (h : JW n j) (hn : n ≤ 13) (l1 : jn j ≤ 400) (l2 : js j ≤ mxI) : (meas 13 (enc j)).isSome = true := by
  obtain ⟨b, q, _⟩ := meas_of 13 j (h.mono hn) l1 l2
  rw [q]; rfl
/-! ### plain jobs are definitions -/
mutual
def emb : Pl.Jb → Jb
  | .st i => .st i
  | .gr w ps => .gr w (embs ps)
  | .ml w c j => .ml w c (emb j)
def embs : List Pl.Jb → List Jb
  | [] => []
  | j :: r => emb j :: embs r
end
theorem embs_map : ∀ ps : List Pl.Jb, embs ps = ps.map emb
  | [] => by rw [embs]; rfl
  | j :: r => by rw [embs, embs_map r]; rfl
mutual
theorem enc_emb : ∀ j : Pl.Jb, enc (emb j) = Pl.enc j
  | .st i => by rw [emb, enc, Pl.enc]
  | .gr w ps => by rw [emb, enc, Pl.enc, encs_embs ps]
  | .ml w c j => by rw [emb, enc, Pl.enc, enc_emb j]
theorem encs_embs : ∀ ps : List Pl.Jb, encs (embs ps) = Pl.encs ps
  | [] => by rw [embs, encs, Pl.encs]
  | j :: r => by rw [embs, encs, Pl.encs, enc_emb j, encs_embs r]
end
mutual
theorem jn_emb : ∀ j : Pl.Jb, jn (emb j) = Pl.jn j
  | .st i => by rw [emb, jn, Pl.jn]
  | .gr w ps => by rw [emb, jn, Pl.jn, jns_embs ps]
  | .ml w c j => by rw [emb, jn, Pl.jn, jn_emb j]
theorem jns_embs : ∀ ps : List Pl.Jb, jns (embs ps) = Pl.jns ps
  | [] => by rw [embs, jns, Pl.jns]
  | j :: r => by rw [embs, jns, Pl.jns, jn_emb j, jns_embs r]
end
mutual
theorem js_emb : ∀ j : Pl.Jb, js (emb j) = Pl.js j
  | .st i => by rw [emb, js, Pl.js]
  | .gr w ps => by rw [emb, js, Pl.js, jss_embs ps]
  | .ml w c j => by rw [emb, js, Pl.js, js_emb j]
theorem jss_embs : ∀ ps : List Pl.Jb, jss (embs ps) = Pl.jss ps
  | [] => by rw [embs, jss, Pl.jss]
  | j :: r => by rw [embs, jss, Pl.jss, js_emb j, jss_embs r]
end
theorem JW_emb : ∀ {n : Nat} {j : Pl.Jb}, Pl.JW n j → JW n (emb j)
  | 0, j, h => by rw [Pl.JW] at h; exact h.elim
  | n + 1, .st i, h => by rw [Pl.JW] at h; rw [emb, JW]; exact h
  | n + 1, .gr w ps, h => by
    rw [Pl.JW] at h
    rw [emb, JW, embs_map, List.length_map]
    refine ⟨h.1, h.2.1, fun p m => ?_⟩
    obtain ⟨q, mq, rfl⟩ := List.mem_map.mp m
    exact JW_emb (h.2.2 q mq)
  | n + 1, .ml w c j, h => by rw [Pl.JW] at h; rw [emb, JW]; exact ⟨h.1, h.2.1, JW_emb h.2.2⟩
end Tx
namespace Tx
open PySem Mi Pl
mutual
/-- the text of a job -/
def wl : Jb → List Nat
  | .st i => numI i
  | .us l => sg "use" ++ (40 :: (l ++ [41]))
  | .gr w ps => sg w ++ (40 :: (TL.joinL [44, 32] (wls ps) ++ [41]))
  | .ml w c j => sg w ++ (40 :: (numI c ++ (44 :: 32 :: (wl j ++ [41]))))
def wls : List Jb → List (List Nat)
  | [] => []
  | j :: r => wl j :: wls r
end
theorem wls_map : ∀ ps : List Jb, wls ps = ps.map wl
  | [] => by rw [wls]; rfl
  | j :: r => by rw [wls, wls_map r]; rfl
def tot (ys : List (List Nat)) : Nat := (ys.map (·.length)).sum
theorem tot_cons (y : List Nat) (ys : List (List Nat)) : tot (y :: ys) = y.length + tot ys := by unfold tot; rw [List.map_cons, List.sum_cons]
theorem joinL_len (s : List Nat) : ∀ ys : List (List Nat), (TL.joinL s ys).length ≤ tot ys + ys.length * s.length
  | [] => Nat.zero_le _
  | [y] => by
    show y.length ≤ _
    rw [tot_cons]; omega
  | y :: z :: r => by
    have := joinL_len s (z :: r)
    show (y ++ (s ++ TL.joinL s (z :: r))).length ≤ _
    rw [List.length_append, List.length_append, tot_cons, List.length_cons, Nat.succ_mul]
    omega
theorem joinL2 (ys : List (List Nat)) : (TL.joinL [44, 32] ys).length ≤ tot ys + 2 * ys.length := by
  have := joinL_len [44, 32] ys
  have e : ([44, 32] : List Nat).length = 2 := rfl
  rw [e] at this
  omega
theorem sgG {w : Str} (h : isG w) : (sg w).length = 3 := by rcases h with rfl | rfl <;> decide +kernel
theorem sgM {w : Str} (h : isM w) : (sg w).length = 6 := by rcases h with rfl | rfl <;> decide +kernel
theorem ten31 : (10 ^ 31 : Nat) = 10000000000000000000000000000000 := by decide +kernel
theorem num_len {i : Int} (h : -mxI ≤ i ∧ i ≤ mxI) : (numI i).length ≤ 32 := by
  rw [mx] at h
  exact numI_len (k := 31) (by decide) (by rw [ten31]; omega)
theorem num_ok {i : Int} (h : -mxI ≤ i ∧ i ≤ mxI) : okS i = true := by
  rw [mx] at h
  refine decide_eq_true (Nat.lt_of_lt_of_le (show i.natAbs < 10 ^ 31 by rw [ten31]; omega) ?_)
  unfold LIS
  exact Nat.pow_le_pow_right (by decide) (by decide)
theorem cnt_b {c : Int} (h : 0 ≤ c ∧ c ≤ mxI) : -mxI ≤ c ∧ c ≤ mxI := by rw [mx] at h ⊢; omega
theorem nm_len {l : List Nat} (h : nm l = true) : 1 ≤ l.length ∧ l.length ≤ 8 := by
  unfold nm at h
  rw [Bool.and_eq_true, decide_eq_true_eq] at h
  exact h.1
theorem nm_let {l : List Nat} (h : nm l = true) : ∀ x ∈ l, 97 ≤ x ∧ x ≤ 122 := fun x m => by
  unfold nm at h
  rw [Bool.and_eq_true, List.all_eq_true] at h
  have := h.2 x m
  unfold let' at this
  rw [Bool.and_eq_true, decide_eq_true_eq, decide_eq_true_eq] at this
  exact this
theorem sgU : (sg "use").length = 3 := by decide +kernel
theorem c_us : ("use(" : Str) = sx (sg "use" ++ [40]) := by decide +kernel
mutual
theorem wl_len : ∀ (n : Nat) (j : Jb), JW n j → (wl j).length + 10 ≤ 80 * jn j
  | 0, j, h => by rw [JW] at h; exact h.elim
  | n + 1, .st i, h => by
    rw [JW] at h
    have := num_len h
    rw [wl, jn]
    omega
  | n + 1, .us l, h => by
    rw [JW] at h
    have := (nm_len h).2
    have u := sgU
    rw [wl, jn, List.length_append, List.length_cons, List.length_append, List.length_singleton, u]
    omega
  | n + 1, .gr w ps, h => by
    rw [JW] at h
    have a := wls_len n ps h.2.2
    have b := joinL2 (wls ps)
    have e : (wls ps).length = ps.length := by rw [wls_map, List.length_map]
    have c := sgG h.1
    rw [wl, jn, List.length_append, List.length_cons, List.length_append, c]
    rw [e] at b
    have e2 : ([44, 32] : List Nat).length = 2 := rfl
    have e3 : ([41] : List Nat).length = 1 := rfl
    omega
  | n + 1, .ml w c j, h => by
    rw [JW] at h
    have a := wl_len n j h.2.2
    have b := num_len (cnt_b h.2.1)
    have d := sgM h.1
    rw [wl, jn, List.length_append, List.length_cons, List.length_append, List.length_cons, List.length_cons, List.length_append, d]
    have e3 : ([41] : List Nat).length = 1 := rfl
    omega
theorem wls_len : ∀ (n : Nat) (ps : List Jb), (∀ p ∈ ps, JW n p) → tot (wls ps) + 10 * ps.length ≤ 80 * jns ps
  | n, [], _ => by rw [wls, jns]; decide
  | n, p :: ps, h => by
    have a := wl_len n p (h p List.mem_cons_self)
    have b := wls_len n ps fun q m => h q (List.mem_cons_of_mem _ m)
    rw [wls, jns, tot_cons, List.length_cons]
    omega
end
theorem add_w {w : Str} {b : List Nat} (h : (sg w).length + b.length ≤ SZ) : binD .Add (.str w) (.str (sx b)) = some (.str (sx (sg w ++ b))) := by
  have := add_sx (a := sg w) h
  rw [sx_sg] at this
  exact this
theorem c_op : ("(" : Str) = sx [40] := by decide +kernel
theorem c_cl : (")" : Str) = sx [41] := by decide +kernel
theorem c_cm : (", " : Str) = sx [44, 32] := by decide +kernel
theorem c_em : ("" : Str) = sx [] := by decide +kernel
theorem c_mi : ("-" : Str) = sx [45] := by decide +kernel
theorem c_ze : ("0" : Str) = sx [48] := by decide +kernel
theorem g9 : GT gs 12 = some (.str (sx [40])) := by rw [← c_op]; rfl
theorem g10 : GT gs 13 = some (.str (sx [41])) := by rw [← c_cl]; rfl
theorem g11 : GT gs 14 = some (.str (sx [44, 32])) := by rw [← c_cm]; rfl
theorem g12 : GT gs 15 = some (.tuple ([("seq" : Str), "par"].map .str)) := rfl
theorem g13 : GT gs 16 = some (.tuple ([("repeat" : Str), "copies"].map .str)) := rfl
theorem g14 : GT gs 17 = some (.str "use") := rfl
theorem φ8 : ΦT ds 14 = some f14 := rfl
theorem φ24 : ΦT ds 31 = some f31 := rfl
theorem not_use {w : Str} (h : isG w ∨ isM w) : w ≠ ("use" : Str) := by rcases h with (rfl | rfl) | (rfl | rfl) <;> decide +kernel
theorem strL_map (ps : List Jb) : strL (wls ps) = ps.map fun j => .str (sx (wl j)) := by
  unfold strL
  rw [wls_map, List.map_map]
  rfl
theorem jn_mem : ∀ {ps : List Jb} {j : Jb}, j ∈ ps → jn j ≤ jns ps
  | p :: ps, j, m => by
    rw [jns]
    rcases List.mem_cons.mp m with rfl | m
    · omega
    · have := jn_mem m; omega
section
variable {h : Sh}
theorem p8 : ∀ (n : Nat) (j : Jb) (k : Nat), JW n j → jn j ≤ 400 → Cl (k + n + 1) 14 [.d (enc j)] h = .ok (.d (.str (sx (wl j)))) h
  | 0, j, k, w, _ => by rw [JW] at w; exact w.elim
  | n + 1, .st i, k, w, l => by
    rw [JW] at w
    rw [enc, wl, Cl, call_at φ8 rfl]
    exact fin_end (s_ifT (h1 := h) (t_b ((e_call rfl).trans (p0 (k := k + n) (.int i) h))) (s_ret (e_bi (es_cons rfl es_nil) rfl (str_sx (num_ok w)))))
  | n + 1, .us u, k, hw, l => by
    rw [JW] at hw
    have hl := (nm_len hw).2
    have u3 := sgU
    have e1 : ([41] : List Nat).length = 1 := rfl
    have e0 : ([40] : List Nat).length = 1 := rfl
    have zz := SZ_eq
    rw [wl, Cl, call_at φ8 rfl]
    have t1 : tru (Ev (k + (n + 1)) (.call 0 [.var 0]) [.v (.d (enc (.us u))), .no] h) = .ok false h := t_b ((e_call rfl).trans ((p0 (k := k + n) (enc (.us u)) h).trans (by rw [enc]; rfl)))
    have first : Ev (k + (n + 1)) (.ix (.var 0) (.cst (.int 0))) [.v (.d (enc (.us u))), .no] h = .ok (.d (.str "use")) h := e_ix rfl rfl (by rw [enc]; exact ix_0)
    have second : Ev (k + (n + 1)) (.ix (.var 0) (.cst (.int 1))) [.v (.d (enc (.us u))), .no] h = .ok (.d (.str (sx u))) h := e_ix rfl rfl (by rw [enc]; exact ix_1)
    refine fin_end ((s_ifF t1).trans ((s_ifF ((cmp_in first g12).trans (by rw [show decide (("use" : Str) ∈ [("seq" : Str), "par"]) = false by decide +kernel]))).trans (s_ifT (t_cmp first (e_glob g14) (cmp_eq.trans (eq_str.trans (by rw [decide_eq_true rfl])))) (s_ret ?_))))
    have r := e_bin (e_bin (e_bin (e_glob g14) (e_glob g9) (add_w (b := [40]) (by omega))) second (add_sx (by rw [List.length_append]; omega))) (e_glob g10) (add_sx (b := [41]) (by rw [List.length_append, List.length_append]; omega))
    rw [List.append_assoc, List.append_assoc] at r
    exact r
  | n + 1, .gr w ps, k, hw, l => by
    have wlen := wl_len (n + 1) (.gr w ps) hw
    rw [jn] at l wlen
    rw [JW] at hw
    have tl' := wls_len n ps hw.2.2
    have le : (wls ps).length = ps.length := by rw [wls_map, List.length_map]
    have jl := joinL2 (wls ps)
    have sw := sgG hw.1
    have e2 : ([44, 32] : List Nat).length = 2 := rfl
    have e1 : ([41] : List Nat).length = 1 := rfl
    have e0 : ([40] : List Nat).length = 1 := rfl
    have lp := hw.2.1
    have zz := SZ_eq
    rw [le] at jl
    have cz := comp_zip (C := Cf (k + (n + 1))) (G := GT gs) (tg := .n 1) (elt := Ev (k + (n + 1)) (.call 14 [.var 1])) (env := [.v (.d (enc (.gr w ps))), .no]) (ps.map fun j => (enc j, PyData.str (sx (wl j)))) (h := h) fun z m => by
      obtain ⟨j, mj, rfl⟩ := List.mem_map.mp m
      exact ⟨_, rfl, (e_call rfl).trans (p8 n j k (hw.2.2 j mj) (by have := jn_mem mj; omega))⟩
    have a1 : (ps.map fun j => (enc j, PyData.str (sx (wl j)))).map (·.1) = encs ps := by rw [List.map_map, encs_map]; rfl
    have a2 : (ps.map fun j => (enc j, PyData.str (sx (wl j)))).map (·.2) = strL (wls ps) := by rw [List.map_map, strL_map]; rfl
    rw [a1, a2] at cz
    rw [wl, Cl, call_at φ8 rfl]
    have t1 : tru (Ev (k + (n + 1)) (.call 0 [.var 0]) [.v (.d (enc (.gr w ps))), .no] h) = .ok false h := t_b ((e_call rfl).trans ((p0 (k := k + n) (enc (.gr w ps)) h).trans (by rw [enc]; rfl)))
    have first : Ev (k + (n + 1)) (.ix (.var 0) (.cst (.int 0))) [.v (.d (enc (.gr w ps))), .no] h = .ok (.d (.str w)) h := e_ix rfl rfl (by rw [enc]; exact ix_0)
    have second : Ev (k + (n + 1)) (.ix (.var 0) (.cst (.int 1))) [.v (.d (enc (.gr w ps))), .no] h = .ok (.d (.tuple (encs ps))) h := e_ix rfl rfl (by rw [enc]; exact ix_1)
    refine fin_end ((s_ifF t1).trans (s_ifT ((cmp_in first g12).trans (by rw [decide_eq_true (mem_G hw.1)])) (s_ret ?_)))
    have jo := join_sx (s := [44, 32]) (ys := wls ps) (by rw [le]; show tot (wls ps) + ps.length * 2 ≤ SZ; omega)
    have r := e_bin (e_bin (e_bin first (e_glob g9) (add_w (b := [40]) (by omega))) (e_me (m := .join) (e_glob g11) (es_cons (e_comp (kk := .seq) (es_cons second es_nil) rfl (by rw [encs_len]; omega) cz) es_nil) rfl jo) (add_sx (by rw [List.length_append]; omega))) (e_glob g10) (add_sx (b := [41]) (by rw [List.length_append, List.length_append]; omega))
    rw [List.append_assoc, List.append_assoc] at r
    exact r
  | n + 1, .ml w c j, k, hw, l => by
    have wlen := wl_len (n + 1) (.ml w c j) hw
    rw [jn] at l wlen
    rw [JW] at hw
    have wj := wl_len n j hw.2.2
    have sw := sgM hw.1
    have nl := num_len (cnt_b hw.2.1)
    have e2 : ([44, 32] : List Nat).length = 2 := rfl
    have e1 : ([41] : List Nat).length = 1 := rfl
    have e0 : ([40] : List Nat).length = 1 := rfl
    have zz := SZ_eq
    rw [wl, Cl, call_at φ8 rfl]
    have t1 : tru (Ev (k + (n + 1)) (.call 0 [.var 0]) [.v (.d (enc (.ml w c j))), .no] h) = .ok false h := t_b ((e_call rfl).trans ((p0 (k := k + n) (enc (.ml w c j)) h).trans (by rw [enc]; rfl)))
    have first : Ev (k + (n + 1)) (.ix (.var 0) (.cst (.int 0))) [.v (.d (enc (.ml w c j))), .no] h = .ok (.d (.str w)) h := e_ix rfl rfl (by rw [enc]; exact ix_0)
    have second : Ev (k + (n + 1)) (.ix (.var 0) (.cst (.int 1))) [.v (.d (enc (.ml w c j))), .no] h = .ok (.d (.int c)) h := e_ix rfl rfl (by rw [enc]; exact ix_1)
    have third : Ev (k + (n + 1)) (.ix (.var 0) (.cst (.int 2))) [.v (.d (enc (.ml w c j))), .no] h = .ok (.d (enc j)) h := e_ix rfl rfl (by rw [enc]; exact ix_2)
    refine fin_end ((s_ifF t1).trans ((s_ifF ((cmp_in first g12).trans (by rw [decide_eq_false (not_G hw.1)]))).trans ((s_ifF (t_cmp first (e_glob g14) (cmp_eq.trans (eq_str.trans (by rw [decide_eq_false (not_use (.inr hw.1))]))))).trans (s_ret ?_))))
    have r := e_bin (e_bin (e_bin (e_bin (e_bin first (e_glob g9) (add_w (b := [40]) (by omega))) (e_bi (es_cons second es_nil) rfl (str_sx (num_ok (cnt_b hw.2.1)))) (add_sx (by rw [List.length_append]; omega))) (e_glob g11) (add_sx (b := [44, 32]) (by rw [List.length_append, List.length_append]; omega)))
      ((e_call (es_cons third es_nil)).trans (p8 n j k hw.2.2 (by omega))) (add_sx (by rw [List.length_append, List.length_append, List.length_append]; omega))) (e_glob g10) (add_sx (b := [41]) (by rw [List.length_append, List.length_append, List.length_append, List.length_append]; omega))
    simp only [List.append_assoc] at r
    exact r
/-! the law's own text of a job -/
def inn : Nat → List Nat → List (List Nat) → List Nat
  | _, acc, [] => acc
  | i, acc, y :: ys => inn (i + 1) ((acc ++ (if 0 < i then [44, 32] else [])) ++ y) ys
theorem inn_app : ∀ (ys : List (List Nat)) (i : Nat) (acc : List Nat), 0 < i → inn i acc ys = acc ++ (ys.map fun y => [44, 32] ++ y).flatten
  | [], _, acc, _ => by rw [inn]; simp
  | y :: ys, i, acc, hi => by
    rw [inn, if_pos hi, inn_app ys (i + 1) _ (by omega), List.map_cons, List.flatten_cons]
    simp only [List.append_assoc]
theorem joinL_flat (s : List Nat) : ∀ (y : List Nat) (ys : List (List Nat)), TL.joinL s (y :: ys) = y ++ (ys.map fun z => s ++ z).flatten
  | y, [] => by show y = _; simp
  | y, z :: r => by
    show y ++ (s ++ TL.joinL s (z :: r)) = _
    rw [joinL_flat s z r, List.map_cons, List.flatten_cons, List.append_assoc]
theorem inn_join (ys : List (List Nat)) : inn 0 [] ys = TL.joinL [44, 32] ys := by
  cases ys with
  | nil => rfl
  | cons y ys =>
    rw [inn, if_neg (by decide), inn_app ys 1 _ (by decide), joinL_flat]
    simp
def body24 : List Ts := [.asg (.n 1) (.bin .Add (.bin .Add (.var 1) (.ix (.ofL (.disp [.cst (.str ""), .cst (.str ", ")])) (.bi .int [.cmp .Gt (.var 2) (.cst (.int 0))]))) (.call 31 [.var 3]))]
theorem loop24 {K : Nat} {d : PyData} : ∀ (ps : List Jb) (i : Nat) (acc : List Nat) (s2 s3 : Sl), acc.length + tot (wls ps) + 2 * ps.length ≤ 100000 → (∀ j ∈ ps, Cl K 31 [.d (enc j)] h = .ok (.d (.str (sx (wl j)))) h) →
    ∃ t2 t3, forLoop (evSs (Cf K) (GT gs) 50000 body24) (.t [2, 3]) (pairs i (encs ps)) [.v (.d d), .v (.d (.str (sx acc))), s2, s3] h = .ok (.nx [.v (.d d), .v (.d (.str (sx (inn i acc (wls ps))))), t2, t3]) h
  | [], i, acc, s2, s3, _, _ => ⟨s2, s3, by rw [encs, wls, inn]; exact fl_nil⟩
  | p :: ps, i, acc, s2, s3, l, q => by
    rw [wls, tot_cons, List.length_cons] at l
    have zz := SZ_eq
    have e2 : ([44, 32] : List Nat).length = 2 := rfl
    have sep : ∀ e1 : En, e1[2]? = some (.v (.d (.int i))) → Ev K (.ix (.ofL (.disp [.cst (.str ""), .cst (.str ", ")])) (.bi .int [.cmp .Gt (.var 2) (.cst (.int 0))])) e1 h = .ok (.d (.str (sx (if 0 < i then [44, 32] else [])))) h := fun e1 he => by
      have hv : Ev K (.var 2) e1 h = .ok (.d (.int i)) h := e_var he
      have hc : Ev K (.bi .int [.cmp .Gt (.var 2) (.cst (.int 0))]) e1 h = .ok (.d (.int (if 0 < i then 1 else 0))) h := by
        refine e_bi (es_cons (e_cmp hv rfl (show some (decide ((0 : Int) < (i : Int))) = _ from rfl)) es_nil) rfl ?_
        by_cases c : 0 < i
        · rw [decide_eq_true (by omega), if_pos c]; rfl
        · rw [decide_eq_false (by omega), if_neg c]; rfl
      refine e_ix (e_disp (es_cons rfl (es_cons rfl es_nil)) rfl (Nat.le_of_ble_eq_true rfl)) hc ?_
      rw [c_em, c_cm]
      by_cases c : 0 < i
      · rw [if_pos c, if_pos c]; exact at_1
      · rw [if_neg c, if_neg c]; exact at_0
    have sepl : (if 0 < i then ([44, 32] : List Nat) else []).length ≤ 2 := by split <;> decide
    obtain ⟨t2, t3, ih⟩ := loop24 ps (i + 1) ((acc ++ (if 0 < i then [44, 32] else [])) ++ wl p) (.v (.d (.int i))) (.v (.d (enc p))) (by rw [List.length_append, List.length_append]; omega) fun j m => q j (List.mem_cons_of_mem _ m)
    refine ⟨t2, t3, ?_⟩
    rw [encs, wls, inn]
    refine fl_next (env' := [.v (.d d), .v (.d (.str (sx acc))), .v (.d (.int i)), .v (.d (enc p))]) rfl ?_ ih
    refine (s_asg (e_bin (e_bin rfl (sep _ rfl) (add_sx (by omega))) ((e_call rfl).trans (q p List.mem_cons_self)) (add_sx (by rw [List.length_append]; omega))) rfl).trans ?_
    rw [evSs]; rfl
theorem p24 : ∀ (n : Nat) (j : Jb) (k : Nat), JW n j → jn j ≤ 400 → Cl (k + n) 31 [.d (enc j)] h = .ok (.d (.str (sx (wl j)))) h
  | 0, j, k, w, _ => by rw [JW] at w; exact w.elim
  | n + 1, .st i, k, w, l => by
    rw [JW] at w
    rw [enc, wl, show k + (n + 1) = (k + n) + 1 by omega, Cl, call_at φ24 rfl]
    exact fin_end (s_ifT (h1 := h) (t_isi (x := .int i) rfl rfl) (s_ret (e_bi (es_cons rfl es_nil) rfl (str_sx (num_ok w)))))
  | n + 1, .us u, k, hw, l => by
    rw [JW] at hw
    have hl := (nm_len hw).2
    have u3 := sgU
    have e1 : ([41] : List Nat).length = 1 := rfl
    have e0 : ([40] : List Nat).length = 1 := rfl
    have zz := SZ_eq
    rw [wl, show k + (n + 1) = (k + n) + 1 by omega, Cl, call_at φ24 rfl]
    have first : Ev (k + n) (.ix (.var 0) (.cst (.int 0))) [.v (.d (enc (.us u))), .no, .no, .no] h = .ok (.d (.str "use")) h := e_ix rfl rfl (by rw [enc]; exact ix_0)
    have second : Ev (k + n) (.ix (.var 0) (.cst (.int 1))) [.v (.d (enc (.us u))), .no, .no, .no] h = .ok (.d (.str (sx u))) h := e_ix rfl rfl (by rw [enc]; exact ix_1)
    have t0 : tru (Ev (k + n) (.isi (.var 0) [.int]) [.v (.d (enc (.us u))), .no, .no, .no] h) = .ok false h := t_isi rfl (by rw [enc]; rfl)
    refine fin_end ((s_ifF t0).trans (s_ifT (t_cmp first rfl (cmp_eq.trans (eq_str.trans (by rw [decide_eq_true rfl])))) (s_ret ?_)))
    have r := e_bin (e_bin (show Ev (k + n) (.cst (.str "use(")) _ h = .ok (.d (.str (sx (sg "use" ++ [40])))) h by rw [← c_us]; rfl) second (add_sx (by rw [List.length_append]; omega))) (show Ev (k + n) (.cst (.str ")")) _ h = .ok (.d (.str (sx [41]))) h by rw [← c_cl]; rfl) (add_sx (b := [41]) (by rw [List.length_append, List.length_append]; omega))
    rw [List.append_assoc, List.append_assoc] at r
    exact r
  | n + 1, .gr w ps, k, hw, l => by
    have wlen := wl_len (n + 1) (.gr w ps) hw
    rw [jn] at l wlen
    rw [JW] at hw
    have tl' := wls_len n ps hw.2.2
    have le : (wls ps).length = ps.length := by rw [wls_map, List.length_map]
    have jl := joinL2 (wls ps)
    have sw := sgG hw.1
    have e2 : ([44, 32] : List Nat).length = 2 := rfl
    have e1 : ([41] : List Nat).length = 1 := rfl
    have e0 : ([40] : List Nat).length = 1 := rfl
    have lp := hw.2.1
    have zz := SZ_eq
    rw [le] at jl
    obtain ⟨t2, t3, lp'⟩ := loop24 (h := h) (K := k + n) (d := enc (.gr w ps)) ps 0 [] .no .no (by show 0 + _ + _ ≤ _; omega) fun j m => p24 n j k (hw.2.2 j m) (by have := jn_mem m; omega)
    rw [inn_join] at lp'
    rw [wl, show k + (n + 1) = (k + n) + 1 by omega, Cl, call_at φ24 rfl]
    have first : ∀ a b c, Ev (k + n) (.ix (.var 0) (.cst (.int 0))) [.v (.d (enc (.gr w ps))), a, b, c] h = .ok (.d (.str w)) h := fun a b c => e_ix rfl rfl (by rw [enc]; exact ix_0)
    have second : ∀ a b c, Ev (k + n) (.ix (.var 0) (.cst (.int 1))) [.v (.d (enc (.gr w ps))), a, b, c] h = .ok (.d (.tuple (encs ps))) h := fun a b c => e_ix rfl rfl (by rw [enc]; exact ix_1)
    have t0 : tru (Ev (k + n) (.isi (.var 0) [.int]) [.v (.d (enc (.gr w ps))), .no, .no, .no] h) = .ok false h := t_isi rfl (by rw [enc]; rfl)
    refine fin_end ((s_ifF t0).trans ((s_ifF (t_cmp (first _ _ _) rfl (cmp_eq.trans (eq_str.trans (by rw [decide_eq_false (not_use (.inl hw.1))]))))).trans ?_))
    refine s_ifT (t_cmp (first _ _ _) (e_tup (es_cons rfl (es_cons rfl es_nil)) rfl (Nat.le_of_ble_eq_true rfl)) (cmp_inT.trans ((in_str (ys := ["seq", "par"])).trans (by rw [decide_eq_true (mem_G hw.1)])))) ?_
    refine (s_asg rfl rfl).trans ((s_for (items := pairs 0 (encs ps)) (es_cons (second _ _ _) es_nil) rfl (by rw [show ("" : Str) = sx [] from c_em]; exact lp')).trans (s_ret ?_))
    have r := e_bin (e_bin (e_bin (first (.v (.d (.str (sx (TL.joinL [44, 32] (wls ps)))))) t2 t3) (show Ev (k + n) (.cst (.str "(")) _ h = .ok (.d (.str (sx [40]))) h by rw [← c_op]; rfl) (add_w (b := [40]) (by omega))) (show Ev (k + n) (.var 1) _ h = .ok (.d (.str (sx (TL.joinL [44, 32] (wls ps))))) h from rfl) (add_sx (by rw [List.length_append]; omega))) (show Ev (k + n) (.cst (.str ")")) _ h = .ok (.d (.str (sx [41]))) h by rw [← c_cl]; rfl) (add_sx (b := [41]) (by rw [List.length_append, List.length_append]; omega))
    rw [List.append_assoc, List.append_assoc] at r
    exact r
  | n + 1, .ml w c j, k, hw, l => by
    have wlen := wl_len (n + 1) (.ml w c j) hw
    rw [jn] at l wlen
    rw [JW] at hw
    have wj := wl_len n j hw.2.2
    have sw := sgM hw.1
    have nl := num_len (cnt_b hw.2.1)
    have e2 : ([44, 32] : List Nat).length = 2 := rfl
    have e1 : ([41] : List Nat).length = 1 := rfl
    have e0 : ([40] : List Nat).length = 1 := rfl
    have zz := SZ_eq
    rw [wl, show k + (n + 1) = (k + n) + 1 by omega, Cl, call_at φ24 rfl]
    have first : Ev (k + n) (.ix (.var 0) (.cst (.int 0))) [.v (.d (enc (.ml w c j))), .no, .no, .no] h = .ok (.d (.str w)) h := e_ix rfl rfl (by rw [enc]; exact ix_0)
    have second : Ev (k + n) (.ix (.var 0) (.cst (.int 1))) [.v (.d (enc (.ml w c j))), .no, .no, .no] h = .ok (.d (.int c)) h := e_ix rfl rfl (by rw [enc]; exact ix_1)
    have third : Ev (k + n) (.ix (.var 0) (.cst (.int 2))) [.v (.d (enc (.ml w c j))), .no, .no, .no] h = .ok (.d (enc j)) h := e_ix rfl rfl (by rw [enc]; exact ix_2)
    have t0 : tru (Ev (k + n) (.isi (.var 0) [.int]) [.v (.d (enc (.ml w c j))), .no, .no, .no] h) = .ok false h := t_isi rfl (by rw [enc]; rfl)
    refine fin_end ((s_ifF t0).trans ((s_ifF (t_cmp first rfl (cmp_eq.trans (eq_str.trans (by rw [decide_eq_false (not_use (.inr hw.1))]))))).trans ?_))
    refine (s_ifF (t_cmp first (e_tup (es_cons rfl (es_cons rfl es_nil)) rfl (Nat.le_of_ble_eq_true rfl)) (cmp_inT.trans ((in_str (ys := ["seq", "par"])).trans (by rw [decide_eq_false (not_G hw.1)]))))).trans (s_ret ?_)
    have r := e_bin (e_bin (e_bin (e_bin (e_bin first (show Ev (k + n) (.cst (.str "(")) _ h = .ok (.d (.str (sx [40]))) h by rw [← c_op]; rfl) (add_w (b := [40]) (by omega))) (e_bi (es_cons second es_nil) rfl (str_sx (num_ok (cnt_b hw.2.1)))) (add_sx (by rw [List.length_append]; omega))) (show Ev (k + n) (.cst (.str ", ")) _ h = .ok (.d (.str (sx [44, 32]))) h by rw [← c_cm]; rfl) (add_sx (b := [44, 32]) (by rw [List.length_append, List.length_append]; omega)))
      ((e_call (es_cons third es_nil)).trans (p24 n j k hw.2.2 (by omega))) (add_sx (by rw [List.length_append, List.length_append, List.length_append]; omega))) (show Ev (k + n) (.cst (.str ")")) _ h = .ok (.d (.str (sx [41]))) h by rw [← c_cl]; rfl) (add_sx (b := [41]) (by rw [List.length_append, List.length_append, List.length_append, List.length_append]; omega))
    simp only [List.append_assoc] at r
    exact r
end
end Tx
namespace Tx
open PySem Mi Pl
theorem ecs {C : Mi.Cf} {G : Nat → Option PyData} {env : En} {h : Sh} {w : Str} {l : List Nat} (e : w = sx l) : evE C G (.cst (.str w)) env h = .ok (.d (.str (sx l))) h := by rw [evE, e]
/-! ### integer_of -/
def dgs (l : List Nat) : List Nat := if l.take 1 = [45] then l.drop 1 else l
def iof (l : List Nat) : PyData :=
  if (1 ≤ (dgs l).length ∧ (dgs l).length ≤ 61) ∧ (dgs l).all dig = true then
    (if (dgs l).head? = some 48 ∧ l ≠ [48] then .none else .int (valI l))
  else .none
def D10 : List Nat := [48, 49, 50, 51, 52, 53, 54, 55, 56, 57]
theorem c_dd : ("0123456789" : Str) = sx D10 := by decide +kernel
theorem g7 : GT gs 10 = some (.str (sx D10)) := by rw [← c_dd]; rfl
theorem mem_D10 (c : Nat) : decide (c ∈ D10) = dig c := by
  rw [Bool.eq_iff_iff]
  unfold dig D10
  simp only [decide_eq_true_eq, Bool.and_eq_true, List.mem_cons, List.not_mem_nil, or_false]
  omega
theorem φ6 : ΦT ds 12 = some f12 := rfl
theorem dgs_len (l : List Nat) : (dgs l).length ≤ l.length := by
  unfold dgs
  split
  · rw [List.length_drop]; omega
  · exact Nat.le_refl _
section
variable {h : Sh}
theorem p6 {k : Nat} {l : List Nat} (hl : l.length ≤ 100000) : Cl (k + 1) 12 [.d (.str (sx l))] h = .ok (.d (iof l)) h := by
  have zz := SZ_eq
  have dl := dgs_len l
  rw [Cl, call_atD (xs := [.d (.str (sx l))]) φ6 (show 1 ≠ 2 by decide) rfl]
  have s0 : Ev k (.ite (.cmp .Eq (.sliceT (.var 0) (.cst (.int 1))) (.cst (.str "-"))) (.sliceF (.var 0) (.cst (.int 1))) (.var 0)) [.v (.d (.str (sx l))), .v (.d (.int 61)), .no, .no] h = .ok (.d (.str (sx (dgs l)))) h := by
    have t : tru (Ev k (.cmp .Eq (.sliceT (.var 0) (.cst (.int 1))) (.cst (.str "-"))) [.v (.d (.str (sx l))), .v (.d (.int 61)), .no, .no] h) = .ok (decide (l.take 1 = [45])) h := t_cmp (e_slT' rfl rfl (sl_to (k := 1) (by omega))) (ecs c_mi) (cmp_eq.trans eq_sx)
    refine (e_ite t).trans ?_
    unfold dgs
    by_cases c : l.take 1 = [45]
    · rw [decide_eq_true c, if_pos rfl, if_pos c]
      exact e_slF' rfl rfl (sl_from (k := 1) (by omega))
    · rw [decide_eq_false c, if_neg Bool.false_ne_true, if_neg c]
      rfl
  refine fin_end ((s_asg s0 rfl).trans ?_)
  have tc : tru (Ev k (.chain .LtE .LtE (.cst (.int 1)) (.bi .len [.var 2]) (.var 1)) [.v (.d (.str (sx l))), .v (.d (.int 61)), .v (.d (.str (sx (dgs l)))), .no] h) = .ok (decide (1 ≤ (dgs l).length ∧ (dgs l).length ≤ 61)) h := by
    refine (t_chain rfl (e_bi (es_cons rfl es_nil) rfl (len_sx (by omega))) rfl rfl rfl).trans ?_
    congr 1
    rw [Bool.eq_iff_iff]
    simp only [Bool.and_eq_true, decide_eq_true_eq]
    omega
  have ta : tru (Ev k (.bi .all [.ofL (.comp (.cmp .In (.var 3) (.glob 10)) (.n 3) .seq [.var 2] [])]) [.v (.d (.str (sx l))), .v (.d (.int 61)), .v (.d (.str (sx (dgs l)))), .no] h) = .ok ((dgs l).all dig) h := by
    have cz := comp_zip (C := Cf k) (G := GT gs) (tg := .n 3) (elt := Ev k (.cmp .In (.var 3) (.glob 10))) (env := [.v (.d (.str (sx l))), .v (.d (.int 61)), .v (.d (.str (sx (dgs l)))), .no]) ((dgs l).map fun c => (PyData.str (sx [c]), PyData.bool (dig c))) (h := h) fun z m => by
      obtain ⟨c, _, rfl⟩ := List.mem_map.mp m
      exact ⟨_, rfl, e_cmp rfl (e_glob g7) (in_sx.trans (by rw [mem_D10]))⟩
    have a1 : (((dgs l).map fun c => (PyData.str (sx [c]), PyData.bool (dig c))).map (·.1)) = (dgs l).map fun c => PyData.str (sx [c]) := by rw [List.map_map]; rfl
    have a2 : (((dgs l).map fun c => (PyData.str (sx [c]), PyData.bool (dig c))).map (·.2)) = ((dgs l).map dig).map .bool := by rw [List.map_map, List.map_map]; rfl
    rw [a1, a2] at cz
    refine t_b (e_bi (es_cons (e_comp (kk := .seq) (es_cons rfl es_nil) seq_sx (by rw [List.length_map]; omega) cz) es_nil) rfl ?_)
    show (boolsOf (((dgs l).map dig).map .bool)).map (fun bs => PyData.bool (bs.all id)) = _
    rw [bools_map]
    show some (PyData.bool (((dgs l).map dig).all id)) = _
    rw [List.all_map]
    rfl
  unfold iof
  by_cases c : (1 ≤ (dgs l).length ∧ (dgs l).length ≤ 61) ∧ (dgs l).all dig = true
  · rw [if_pos c]
    refine (s_ifF ((t_orF (t_nF (tc.trans (by rw [decide_eq_true c.1])))).trans (t_or1.trans (t_nF (ta.trans (by rw [c.2])))))).trans ?_
    obtain ⟨a, r, er⟩ : ∃ a r, dgs l = a :: r := by
      cases e : dgs l with
      | nil => rw [e] at c; exact absurd c.1.1 (by decide)
      | cons a r => exact ⟨a, r, rfl⟩
    have t0 : tru (Ev k (.cmp .Eq (.ix (.var 2) (.cst (.int 0))) (.cst (.str "0"))) [.v (.d (.str (sx l))), .v (.d (.int 61)), .v (.d (.str (sx (dgs l)))), .no] h) = .ok (decide ([a] = [48])) h :=
      t_cmp (e_ix rfl rfl (ix_sx (k := 0) (by omega) (by rw [er]; rfl))) (ecs c_ze) (cmp_eq.trans eq_sx)
    have t1 : tru (Ev k (.cmp .NotEq (.var 0) (.cst (.str "0"))) [.v (.d (.str (sx l))), .v (.d (.int 61)), .v (.d (.str (sx (dgs l)))), .no] h) = .ok (!decide (l = [48])) h :=
      t_cmp rfl (ecs c_ze) (cmp_ne.trans (by rw [eq_sx]; rfl))
    have tt := t_and t0 fun _ => t_and1.trans t1
    have l62 : l.length ≤ 62 := by
      have := c.1.2
      unfold dgs at this
      split at this
      · rw [List.length_drop] at this; omega
      · omega
    by_cases c2 : (dgs l).head? = some 48 ∧ l ≠ [48]
    · rw [if_pos c2]
      have ea : a = 48 := by
        have := c2.1
        rw [er] at this
        exact Option.some.inj this
      refine s_ifT (tt.trans (by rw [ea, decide_eq_true rfl, decide_eq_false c2.2]; rfl)) (s_ret rfl)
    · rw [if_neg c2]
      refine (s_ifF (tt.trans ?_)).trans (s_ret (e_bi (es_cons rfl es_nil) rfl (int_of_sx c.2 (by show dgs l ≠ []; rw [er]; simp) (by omega))))
      by_cases ea : a = 48
      · have : l = [48] := Classical.byContradiction fun z => c2 ⟨by rw [er, ea]; rfl, z⟩
        rw [decide_eq_true (by rw [ea]), decide_eq_true this]
        rfl
      · rw [decide_eq_false (by simpa using ea)]
        rfl
  · rw [if_neg c]
    by_cases c1 : 1 ≤ (dgs l).length ∧ (dgs l).length ≤ 61
    · have c3 : (dgs l).all dig = false := by
        cases e : (dgs l).all dig with
        | false => rfl
        | true => exact absurd ⟨c1, e⟩ c
      exact s_ifT ((t_orF (t_nF (tc.trans (by rw [decide_eq_true c1])))).trans (t_or1.trans (t_nT (ta.trans (by rw [c3]))))) (s_ret rfl)
    · exact s_ifT (t_orT (t_nT (tc.trans (by rw [decide_eq_false c1])))) (s_ret rfl)
/-! ### split_parts -/
def sep (e : Int) : List Nat := if 0 < e then [44, 32] else []
def dlt (p : List Nat) : Int := (p.count 40 : Int) - (p.count 41 : Int)
/-- found is done ++ [cur] -/
def spf : List (List Nat) → List Nat → Int → List (List Nat) → List (List Nat) × List Nat
  | done, cur, _, [] => (done, cur)
  | done, cur, e, p :: ps => if e + dlt p ≤ 0 then spf (done ++ [cur ++ sep e ++ p]) [] (e + dlt p) ps else spf done (cur ++ sep e ++ p) (e + dlt p) ps
def splitP (l : List Nat) : List (List Nat) :=
  if (spf [] [] 0 (TL.spl [44, 32] 0 [] l)).2 = [] then (spf [] [] 0 (TL.spl [44, 32] 0 [] l)).1 else (spf [] [] 0 (TL.spl [44, 32] 0 [] l)).1 ++ [(spf [] [] 0 (TL.spl [44, 32] 0 [] l)).2]
theorem φ9 : ΦT ds 15 = some f15 := rfl
def body9 : List Ts := [.ownix 1 (.neg (.cst (.int 1))) (.bin .Add (.bin .Add (.ix (.peek 1) (.neg (.cst (.int 1)))) (.ite (.cmp .Gt (.var 2) (.cst (.int 0))) (.glob 14) (.cst (.str "")))) (.var 3)), .aug 2 .Add (.bin .Sub (.me .count (.var 3) [.glob 12]) (.me .count (.var 3) [.glob 13])), .iff (.cmp .LtE (.var 2) (.cst (.int 0))) [.app 1 (.cst (.str ""))] []]
theorem strL_app (a b : List (List Nat)) : strL (a ++ b) = strL a ++ strL b := by unfold strL; rw [List.map_append]
theorem strL_len (a : List (List Nat)) : (strL a).length = a.length := by unfold strL; rw [List.length_map]
theorem last_L (d : List (List Nat)) (c : List Nat) : ixD (.list (strL (d ++ [c]))) (-1) = some (.str (sx c)) := by
  rw [strL_app]
  exact at_last (xs := strL d) (x := .str (sx c))
theorem ixN_last (n : Nat) : L2.ixN (n + 1) (-1) = some n := by
  unfold L2.ixN
  rw [if_neg (by decide), if_pos (by omega)]
  congr 1
  omega
theorem set_last (d : List (List Nat)) (c c' : List Nat) : (strL (d ++ [c])).set d.length (.str (sx c')) = strL (d ++ [c']) := by
  rw [strL_app, strL_app, List.set_append_right _ _ (by rw [strL_len]; exact Nat.le_refl _), strL_len, Nat.sub_self]
  rfl
theorem turn9 {K : Nat} {x : PyData} {done : List (List Nat)} {cur p : List Nat} {e : Int} (hd : done.length ≤ 100000) (hc : cur.length + p.length + 2 ≤ 1000000) :
    evSs (Cf K) (GT gs) 50000 body9 [.v (.d x), .own (strL (done ++ [cur])), .v (.d (.int e)), .v (.d (.str (sx p)))] h = .ok (.nx [.v (.d x), .own (strL (if e + dlt p ≤ 0 then (done ++ [cur ++ sep e ++ p]) ++ [[]] else done ++ [cur ++ sep e ++ p])), .v (.d (.int (e + dlt p))), .v (.d (.str (sx p)))]) h := by
  have zz := SZ_eq
  have sl : (sep e).length ≤ 2 := by unfold sep; split <;> decide
  have t : tru (Ev K (.cmp .Gt (.var 2) (.cst (.int 0))) [.v (.d x), .own (strL (done ++ [cur])), .v (.d (.int e)), .v (.d (.str (sx p)))] h) = .ok (decide (0 < e)) h := t_cmp rfl rfl rfl
  have s1 : Ev K (.ite (.cmp .Gt (.var 2) (.cst (.int 0))) (.glob 14) (.cst (.str ""))) [.v (.d x), .own (strL (done ++ [cur])), .v (.d (.int e)), .v (.d (.str (sx p)))] h = .ok (.d (.str (sx (sep e)))) h := by
    refine (e_ite t).trans ?_
    unfold sep
    by_cases c : 0 < e
    · rw [decide_eq_true c, if_pos rfl, if_pos c]; exact e_glob g11
    · rw [decide_eq_false c, if_neg Bool.false_ne_true, if_neg c]; exact ecs c_em
  have n1 : Ev K (.neg (.cst (.int 1))) [.v (.d x), .own (strL (done ++ [cur])), .v (.d (.int e)), .v (.d (.str (sx p)))] h = .ok (.d (.int (-1))) h := rfl
  have v := e_bin (e_bin (e_ix (e_peek (i := 1) rfl) n1 (last_L done cur)) s1 (add_sx (by omega))) (show Ev K (.var 3) [.v (.d x), .own (strL (done ++ [cur])), .v (.d (.int e)), .v (.d (.str (sx p)))] h = .ok (.d (.str (sx p))) h from rfl) (add_sx (by rw [List.length_append]; omega))
  have hk : L2.ixN (strL (done ++ [cur])).length (-1) = some done.length := by
    rw [strL_len, List.length_append]
    exact ixN_last done.length
  refine (s_ownix (xs := strL (done ++ [cur])) rfl v n1 hk).trans ?_
  rw [set_last]
  have cnt : ∀ E : En, E[3]? = some (.v (.d (.str (sx p)))) → Ev K (.bin .Sub (.me .count (.var 3) [.glob 12]) (.me .count (.var 3) [.glob 13])) E h = .ok (.d (.int (dlt p))) h := fun E hE =>
    e_bin (e_me (e_var hE) (es_cons (e_glob g9) es_nil) rfl count_sx) (e_me (e_var hE) (es_cons (e_glob g10) es_nil) rfl count_sx) rfl
  refine (s_aug (x := .int e) rfl rfl (cnt _ rfl) rfl).trans ?_
  have t2 : tru (Ev K (.cmp .LtE (.var 2) (.cst (.int 0))) [.v (.d x), .own (strL (done ++ [cur ++ sep e ++ p])), .v (.d (.int (e + dlt p))), .v (.d (.str (sx p)))] h) = .ok (decide (e + dlt p ≤ 0)) h := t_cmp rfl rfl rfl
  by_cases c : e + dlt p ≤ 0
  · rw [if_pos c, strL_app (done ++ [cur ++ sep e ++ p])]
    refine (s_ifN (t2.trans (by rw [decide_eq_true c])) ((s_app (xs := strL (done ++ [cur ++ sep e ++ p])) rfl (ecs c_em) (by rw [strL_len, List.length_append]; show done.length + 1 < SZ; omega)).trans ss_nil)).trans ?_
    exact ss_nil
  · rw [if_neg c]
    exact (s_ifF (t2.trans (by rw [decide_eq_false c]))).trans ss_nil
theorem loop9 {K : Nat} {x : PyData} : ∀ (ps done : List (List Nat)) (cur : List Nat) (e : Int) (s3 : Sl), done.length + ps.length ≤ 100000 → cur.length + tot ps + 2 * ps.length ≤ 500000 →
    ∃ e' t3, forLoop (evSs (Cf K) (GT gs) 50000 body9) (.n 3) ((strL ps).map .d) [.v (.d x), .own (strL (done ++ [cur])), .v (.d (.int e)), s3] h = .ok (.nx [.v (.d x), .own (strL ((spf done cur e ps).1 ++ [(spf done cur e ps).2])), .v (.d (.int e')), t3]) h
  | [], done, cur, e, s3, _, _ => ⟨e, s3, by rw [spf]; exact fl_nil⟩
  | p :: ps, done, cur, e, s3, l1, l2 => by
    rw [List.length_cons] at l1 l2
    rw [tot_cons] at l2
    have sl : (sep e).length ≤ 2 := by unfold sep; split <;> decide
    have t := turn9 (h := h) (K := K) (x := x) (done := done) (cur := cur) (p := p) (e := e) (by omega) (by omega)
    rw [spf]
    by_cases c : e + dlt p ≤ 0
    · rw [if_pos c] at t ⊢
      obtain ⟨e', t3, ih⟩ := loop9 ps (done ++ [cur ++ sep e ++ p]) [] (e + dlt p) (.v (.d (.str (sx p)))) (by rw [List.length_append, List.length_singleton]; omega) (by rw [List.length_nil]; omega)
      exact ⟨e', t3, fl_next rfl t ih⟩
    · rw [if_neg c] at t ⊢
      obtain ⟨e', t3, ih⟩ := loop9 ps done (cur ++ sep e ++ p) (e + dlt p) (.v (.d (.str (sx p)))) (by omega) (by rw [List.length_append, List.length_append]; omega)
      exact ⟨e', t3, fl_next rfl t ih⟩
theorem spl_tot : ∀ (l acc : List Nat), tot (TL.spl [44, 32] 0 acc l) ≤ acc.length + l.length ∧ (TL.spl [44, 32] 0 acc l).length ≤ l.length + 1 ∧ (tot (TL.spl [44, 32] 1 acc l) ≤ acc.length + l.length ∧ (TL.spl [44, 32] 1 acc l).length ≤ l.length + 1)
  | [], acc => by
    rw [TL.spl_nil, TL.spl_nil, tot_cons]
    exact ⟨Nat.le_refl _, Nat.le_refl _, Nat.le_refl _, Nat.le_refl _⟩
  | c :: r, acc => by
    have a := spl_tot r acc
    have b := spl_tot r []
    have d := spl_tot r (acc ++ [c])
    rw [List.length_append, List.length_singleton] at d
    rw [List.length_nil] at b
    have e1 : TL.spl [44, 32] 1 acc (c :: r) = TL.spl [44, 32] 0 acc r := rfl
    rw [e1, List.length_cons]
    cases hp : TL.pre [44, 32] (c :: r) with
    | true =>
      rw [TL.spl_hit hp, tot_cons, List.length_cons]
      show acc.length + tot (TL.spl [44, 32] 1 [] r) ≤ _ ∧ (TL.spl [44, 32] 1 [] r).length + 1 ≤ _ ∧ _
      omega
    | false =>
      rw [TL.spl_miss hp]
      omega
theorem p9 {k : Nat} {l : List Nat} (hl : l.length ≤ 50000) : Cl (k + 1) 15 [.d (.str (sx l))] h = .ok (.d (.list (strL (splitP l)))) h := by
  have zz := SZ_eq
  have b := spl_tot l []
  rw [List.length_nil] at b
  obtain ⟨e', t3, lp⟩ := loop9 (h := h) (K := k) (x := .str (sx l)) (TL.spl [44, 32] 0 [] l) [] [] 0 .no (by rw [List.length_nil]; omega) (by rw [List.length_nil]; omega)
  rw [Cl, call_at φ9 rfl]
  have i0 : evL (Cf k) (GT gs) (.disp [.cst (.str "")]) [.v (.d (.str (sx l))), .no, .no, .no] h = .ok (strL ([] ++ [[]])) h := l_disp (es_cons (ecs c_em) es_nil) rfl (Nat.le_of_ble_eq_true rfl)
  refine fin_end ((s_own i0).trans ((s_asg rfl rfl).trans ((s_for (items := (strL (TL.spl [44, 32] 0 [] l)).map .d) (es_cons (e_me rfl (es_cons (e_glob g11) es_nil) rfl (split_sx (by simp) rfl (by omega))) es_nil) rfl lp).trans ?_)))
  generalize hq : spf [] [] 0 (TL.spl [44, 32] 0 [] l) = q
  obtain ⟨done, cur⟩ := q
  have fr : evSs (Cf k) (GT gs) 50000 [.freeze 1, .ret (.ite (.cmp .Eq (.ix (.peek 1) (.neg (.cst (.int 1)))) (.cst (.str ""))) (.sliceT (.peek 1) (.neg (.cst (.int 1)))) (.var 1))] [.v (.d (.str (sx l))), .own (strL (done ++ [cur])), .v (.d (.int e')), t3] h = .ok (.rt (.d (.list (strL (splitP l))))) h := by
    refine (s_freeze (xs := strL (done ++ [cur])) rfl).trans (s_ret ?_)
    have pk : Ev k (.peek 1) [.v (.d (.str (sx l))), .v (.d (.list (strL (done ++ [cur])))), .v (.d (.int e')), t3] h = .ok (.d (.list (strL (done ++ [cur])))) h := rfl
    have n1 : Ev k (.neg (.cst (.int 1))) [.v (.d (.str (sx l))), .v (.d (.list (strL (done ++ [cur])))), .v (.d (.int e')), t3] h = .ok (.d (.int (-1))) h := rfl
    have t : tru (Ev k (.cmp .Eq (.ix (.peek 1) (.neg (.cst (.int 1)))) (.cst (.str ""))) [.v (.d (.str (sx l))), .v (.d (.list (strL (done ++ [cur])))), .v (.d (.int e')), t3] h) = .ok (decide (cur = [])) h := t_cmp (e_ix pk n1 (last_L done cur)) (ecs c_em) (cmp_eq.trans eq_sx)
    refine (e_ite t).trans ?_
    unfold splitP
    rw [hq]
    dsimp only
    by_cases c : cur = []
    · rw [decide_eq_true c, if_pos rfl, if_pos c]
      refine e_slT' pk n1 ?_
      show some (PyData.list (cut (strL (done ++ [cur])) none (some (-1)))) = _
      congr 2
      unfold cut
      have e : HT.sIx (strL (done ++ [cur])).length (strL (done ++ [cur])).length (some (-1)) = done.length := by
        show (if (-1 : Int) < 0 then ((-1 : Int) + ((strL (done ++ [cur])).length : Int)).toNat else min (-1 : Int).toNat (strL (done ++ [cur])).length) = _
        rw [if_pos (by decide), strL_len, List.length_append, List.length_singleton]
        omega
      rw [e, HT.sIx_none, List.drop_zero, Nat.sub_zero, strL_app, List.take_append_of_le_length (by rw [strL_len]; exact Nat.le_refl _), List.take_of_length_le (by rw [strL_len]; exact Nat.le_refl _)]
    · rw [decide_eq_false c, if_neg Bool.false_ne_true, if_neg c]
      rfl
  exact fr
end
end Tx
namespace Tx
open PySem Mi Pl
/-! ### split_parts, sign by sign -/
def dl (x : Nat) : Int := if x = 40 then 1 else if x = 41 then -1 else 0
theorem dlt_snoc (p : List Nat) (x : Nat) : dlt (p ++ [x]) = dlt p + dl x := by
  unfold dlt dl
  rw [List.count_append, List.count_append, List.count_singleton, List.count_singleton]
  by_cases a : x = 40
  · subst a
    rw [if_pos rfl]
    simp only [beq_self_eq_true, if_true]
    rw [if_neg (by decide)]
    omega
  · rw [if_neg a]
    by_cases b : x = 41
    · subst b
      rw [if_pos rfl]
      simp only [beq_self_eq_true, if_true]
      rw [if_neg (by decide)]
      omega
    · rw [if_neg b, if_neg (by simpa using a), if_neg (by simpa using b)]
      omega
def ca : Nat → List (List Nat) → List Nat → Int → List Nat → List (List Nat)
  | _, d, c, e, [] => if e ≤ 0 then d ++ [c] else if c = [] then d else d ++ [c]
  | 0, d, c, e, x :: r => if TL.pre [44, 32] (x :: r) = true then (if e ≤ 0 then ca 1 (d ++ [c]) [] e r else ca 1 d (c ++ [44, 32]) e r) else ca 0 d (c ++ [x]) (e + dl x) r
  | k + 1, d, c, e, _ :: r => ca k d c e r
def spF (d : List (List Nat)) (c : List Nat) (e : Int) (ps : List (List Nat)) : List (List Nat) := if (spf d c e ps).2 = [] then (spf d c e ps).1 else (spf d c e ps).1 ++ [(spf d c e ps).2]
theorem spF_cons {d : List (List Nat)} {c : List Nat} {e : Int} {p : List Nat} {ps : List (List Nat)} : spF d c e (p :: ps) = if e + dlt p ≤ 0 then spF (d ++ [c ++ sep e ++ p]) [] (e + dlt p) ps else spF d (c ++ sep e ++ p) (e + dlt p) ps := by
  unfold spF
  rw [spf]
  split <;> rfl
theorem spF_ca : ∀ (l : List Nat) (d : List (List Nat)) (c acc : List Nat) (e : Int), spF d c e (TL.spl [44, 32] 0 acc l) = ca 0 d (c ++ sep e ++ acc) (e + dlt acc) l ∧ spF d c e (TL.spl [44, 32] 1 acc l) = ca 1 d (c ++ sep e ++ acc) (e + dlt acc) l
  | [], d, c, acc, e => by
    have key : spF d c e [acc] = if e + dlt acc ≤ 0 then d ++ [c ++ sep e ++ acc] else if c ++ sep e ++ acc = [] then d else d ++ [c ++ sep e ++ acc] := by
      rw [spF_cons]
      split
      · unfold spF; rw [spf]; rw [if_pos rfl]
      · unfold spF; rw [spf]
    rw [TL.spl_nil, TL.spl_nil, ca, ca, key]
    exact ⟨rfl, rfl⟩
  | x :: r, d, c, acc, e => by
    have second : spF d c e (TL.spl [44, 32] 1 acc (x :: r)) = ca 1 d (c ++ sep e ++ acc) (e + dlt acc) (x :: r) := by
      show spF d c e (TL.spl [44, 32] 0 acc r) = ca 0 d (c ++ sep e ++ acc) (e + dlt acc) r
      exact (spF_ca r d c acc e).1
    refine ⟨?_, second⟩
    cases hp : TL.pre [44, 32] (x :: r) with
    | true =>
      rw [TL.spl_hit hp, spF_cons, ca, if_pos hp]
      show (if e + dlt acc ≤ 0 then spF (d ++ [c ++ sep e ++ acc]) [] (e + dlt acc) (TL.spl [44, 32] 1 [] r) else spF d (c ++ sep e ++ acc) (e + dlt acc) (TL.spl [44, 32] 1 [] r)) = _
      have z : dlt [] = 0 := rfl
      by_cases le : e + dlt acc ≤ 0
      · rw [if_pos le, if_pos le, (spF_ca r _ [] [] _).2, z, Int.add_zero]
        have : sep (e + dlt acc) = [] := by unfold sep; rw [if_neg (by omega)]
        rw [this]
        rfl
      · rw [if_neg le, if_neg le, (spF_ca r _ _ [] _).2, z, Int.add_zero]
        have : sep (e + dlt acc) = [44, 32] := by unfold sep; rw [if_pos (by omega)]
        rw [this, List.append_nil]
    | false =>
      rw [TL.spl_miss hp, (spF_ca r d c (acc ++ [x]) e).1, ca, if_neg (by rw [hp]; exact Bool.false_ne_true), dlt_snoc]
      congr 1
      · rw [List.append_assoc, List.append_assoc, List.append_assoc]
      · omega
theorem splitP_ca (l : List Nat) : splitP l = ca 0 [] [] 0 l := by
  have := (spF_ca l [] [] [] 0).1
  exact this
theorem tot_app (a b : List (List Nat)) : tot (a ++ b) = tot a + tot b := by unfold tot; rw [List.map_append, List.sum_append]
theorem tot_mem : ∀ {a : List (List Nat)} {y : List Nat}, y ∈ a → y.length ≤ tot a
  | x :: a, y, m => by
    rw [tot_cons]
    rcases List.mem_cons.mp m with rfl | m
    · omega
    · have := tot_mem m; omega
theorem pre2 {x : Nat} {r : List Nat} (h : TL.pre [44, 32] (x :: r) = true) : ∃ r', x = 44 ∧ r = 32 :: r' := by
  have e : (x :: r).take 2 = [44, 32] := eq_of_beq h
  cases r with
  | nil => simp at e
  | cons y r =>
    simp at e
    exact ⟨r, e.1, by rw [e.2]⟩
theorem ca_tot : ∀ (l : List Nat) (d : List (List Nat)) (c : List Nat) (e : Int), tot (ca 0 d c e l) ≤ tot d + c.length + l.length ∧ (l ≠ [] → tot (ca 1 d c e l) ≤ tot d + c.length + (l.length - 1)) ∧ (ca 0 d c e l).length ≤ d.length + l.length + 1 ∧ (ca 1 d c e l).length ≤ d.length + l.length + 1
  | [], d, c, e => by
    have t1 : tot (d ++ [c]) = tot d + c.length := by rw [tot_app, tot_cons]; unfold tot; simp
    have l1 : (d ++ [c]).length = d.length + 1 := by rw [List.length_append, List.length_singleton]
    have key : ca 0 d c e [] = ca 1 d c e [] := by rw [ca, ca]
    rw [← key]
    refine ⟨?_, fun z => absurd rfl z, ?_⟩
    · rw [ca]
      split
      · omega
      · split <;> omega
    · rw [ca]
      rw [List.length_nil]
      split
      · omega
      · split <;> omega
  | x :: r, d, c, e => by
    have t1 : tot (d ++ [c]) = tot d + c.length := by rw [tot_app, tot_cons]; unfold tot; simp
    have e1 : ca 1 d c e (x :: r) = ca 0 d c e r := rfl
    have a := ca_tot r d c e
    rw [e1, List.length_cons]
    refine ⟨?_, fun _ => by omega, ?_, by omega⟩
    · rw [ca]
      by_cases hp : TL.pre [44, 32] (x :: r) = true
      · rw [if_pos hp]
        obtain ⟨r', _, er⟩ := pre2 hp
        have hr : r ≠ [] := by rw [er]; simp
        have hl : 1 ≤ r.length := by rw [er, List.length_cons]; omega
        split
        · have := (ca_tot r (d ++ [c]) [] e).2.1 hr
          rw [t1, List.length_nil] at this
          omega
        · have := (ca_tot r d (c ++ [44, 32]) e).2.1 hr
          rw [List.length_append] at this
          have e2 : ([44, 32] : List Nat).length = 2 := rfl
          omega
      · rw [if_neg hp]
        have := (ca_tot r d (c ++ [x]) (e + dl x)).1
        rw [List.length_append, List.length_singleton] at this
        omega
    · rw [ca]
      by_cases hp : TL.pre [44, 32] (x :: r) = true
      · rw [if_pos hp]
        split
        · have := (ca_tot r (d ++ [c]) [] e).2.2.2
          rw [List.length_append, List.length_singleton] at this
          omega
        · have := (ca_tot r d (c ++ [44, 32]) e).2.2.2
          omega
      · rw [if_neg hp]
        have := (ca_tot r d (c ++ [x]) (e + dl x)).2.2.1
        omega
theorem splitP_b {l y : List Nat} (m : y ∈ splitP l) : y.length ≤ l.length := by
  have a := (ca_tot l [] [] 0).1
  rw [← splitP_ca] at a
  have b := tot_mem m
  have c : tot [] = 0 := rfl
  rw [List.length_nil] at a
  omega
theorem splitP_l (l : List Nat) : (splitP l).length ≤ l.length + 1 := by
  have a := (ca_tot l [] [] 0).2.2.1
  rw [← splitP_ca, List.length_nil] at a
  omega
/-! a job's text within a text that is split -/
theorem ca_step {d : List (List Nat)} {c : List Nat} {e : Int} {x : Nat} {r : List Nat} (h : x ≠ 44) : ca 0 d c e (x :: r) = ca 0 d (c ++ [x]) (e + dl x) r := by
  rw [ca, if_neg]
  intro hp
  obtain ⟨_, e1, _⟩ := pre2 hp
  exact h e1
theorem ca_run : ∀ (p : List Nat) {d : List (List Nat)} {c : List Nat} {e : Int} {r : List Nat}, (∀ x ∈ p, x ≠ 44 ∧ x ≠ 40 ∧ x ≠ 41) → ca 0 d c e (p ++ r) = ca 0 d (c ++ p) e r
  | [], d, c, e, r, _ => by rw [List.append_nil]; rfl
  | x :: p, d, c, e, r, h => by
    have hx := h x List.mem_cons_self
    have e0 : dl x = 0 := by unfold dl; rw [if_neg hx.2.1, if_neg hx.2.2]
    show ca 0 d c e (x :: (p ++ r)) = _
    rw [ca_step hx.1, e0, Int.add_zero, ca_run p fun y m => h y (List.mem_cons_of_mem _ m), List.append_assoc]
    rfl
theorem ca_sep {d : List (List Nat)} {c : List Nat} {e : Int} {r : List Nat} : ca 0 d c e (44 :: 32 :: r) = if e ≤ 0 then ca 0 (d ++ [c]) [] e r else ca 0 d (c ++ [44, 32]) e r := by
  rw [ca, if_pos (show TL.pre [44, 32] (44 :: 32 :: r) = true from TL.pre_self [44, 32] r)]
  split <;> rfl
theorem num_free (i : Int) : ∀ x ∈ numI i, x ≠ 44 ∧ x ≠ 40 ∧ x ≠ 41 := fun x m => by
  have d := TL.numL_digits i.natAbs
  unfold numI at m
  split at m
  · rcases List.mem_cons.mp m with rfl | m
    · decide
    · have := d x m; omega
  · have := d x m; omega
theorem us_free : ∀ x ∈ sg "use", x ≠ 44 ∧ x ≠ 40 ∧ x ≠ 41 := by decide +kernel
theorem nm_free {l : List Nat} (h : nm l = true) : ∀ x ∈ l, x ≠ 44 ∧ x ≠ 40 ∧ x ≠ 41 := fun x m => by
  have := nm_let h x m
  omega
theorem w_free {w : Str} (h : isG w ∨ isM w) : ∀ x ∈ sg w, x ≠ 44 ∧ x ≠ 40 ∧ x ≠ 41 := by
  rcases h with (rfl | rfl) | (rfl | rfl) <;> decide +kernel
mutual
theorem ca_wl : ∀ (n : Nat) (j : Jb) (d : List (List Nat)) (c : List Nat) (e : Int) (r : List Nat), JW n j → 0 ≤ e → ca 0 d c e (wl j ++ r) = ca 0 d (c ++ wl j) e r
  | 0, j, d, c, e, r, h, _ => by rw [JW] at h; exact h.elim
  | n + 1, .st i, d, c, e, r, h, he => by
    rw [wl]
    exact ca_run _ (num_free i)
  | n + 1, .us l, d, c, e, r, h, he => by
    rw [JW] at h
    rw [wl, List.append_assoc, ca_run _ us_free]
    show ca 0 d (c ++ sg "use") e (40 :: ((l ++ [41]) ++ r)) = _
    have e1 : e + dl 40 = e + 1 := rfl
    have e2 : e + 1 + dl 41 = e := by show e + 1 + -1 = e; omega
    have e3 : (l ++ [41]) ++ r = l ++ (41 :: r) := by rw [List.append_assoc]; rfl
    rw [ca_step (by decide), e1, e3, ca_run _ (nm_free h)]
    rw [ca_step (by decide), e2]
    simp only [List.append_assoc, List.singleton_append, List.cons_append, List.nil_append]
  | n + 1, .gr w ps, d, c, e, r, h, he => by
    rw [JW] at h
    rw [wl, List.append_assoc, ca_run _ (w_free (.inl h.1))]
    show ca 0 d (c ++ sg w) e (40 :: ((TL.joinL [44, 32] (wls ps) ++ [41]) ++ r)) = _
    have e1 : e + dl 40 = e + 1 := rfl
    have e2 : e + 1 + dl 41 = e := by show e + 1 + -1 = e; omega
    have e3 : (TL.joinL [44, 32] (wls ps) ++ [41]) ++ r = TL.joinL [44, 32] (wls ps) ++ (41 :: r) := by rw [List.append_assoc]; rfl
    rw [ca_step (by decide), e1, e3, ca_wls n ps d _ (e + 1) _ h.2.2 (by omega)]
    rw [ca_step (by decide), e2]
    simp only [List.append_assoc, List.singleton_append, List.cons_append, List.nil_append]
  | n + 1, .ml w k j, d, c, e, r, h, he => by
    rw [JW] at h
    rw [wl, List.append_assoc, ca_run _ (w_free (.inr h.1))]
    show ca 0 d (c ++ sg w) e (40 :: ((numI k ++ (44 :: 32 :: (wl j ++ [41]))) ++ r)) = _
    have e1 : e + dl 40 = e + 1 := rfl
    have e2 : e + 1 + dl 41 = e := by show e + 1 + -1 = e; omega
    have e3 : (numI k ++ (44 :: 32 :: (wl j ++ [41]))) ++ r = numI k ++ (44 :: 32 :: (wl j ++ (41 :: r))) := by simp
    rw [ca_step (by decide), e1, e3, ca_run _ (num_free k), ca_sep, if_neg (by omega), ca_wl n j d _ (e + 1) _ h.2.2 (by omega)]
    rw [ca_step (by decide), e2]
    simp only [List.append_assoc, List.singleton_append, List.cons_append, List.nil_append]
theorem ca_wls : ∀ (n : Nat) (ps : List Jb) (d : List (List Nat)) (c : List Nat) (e : Int) (r : List Nat), (∀ p ∈ ps, JW n p) → 0 < e → ca 0 d c e (TL.joinL [44, 32] (wls ps) ++ r) = ca 0 d (c ++ TL.joinL [44, 32] (wls ps)) e r
  | n, [], d, c, e, r, _, _ => by rw [wls]; show ca 0 d c e r = ca 0 d (c ++ []) e r; rw [List.append_nil]
  | n, [p], d, c, e, r, h, he => by
    rw [wls, wls]
    exact ca_wl n p d c e r (h p List.mem_cons_self) (by omega)
  | n, p :: q :: ps, d, c, e, r, h, he => by
    have e0 : TL.joinL [44, 32] (wls (p :: q :: ps)) = wl p ++ (44 :: 32 :: TL.joinL [44, 32] (wls (q :: ps))) := by rw [wls, wls]; rfl
    rw [e0, List.append_assoc, ca_wl n p d c e _ (h p List.mem_cons_self) (by omega)]
    show ca 0 d _ e (44 :: 32 :: (TL.joinL [44, 32] (wls (q :: ps)) ++ r)) = _
    rw [ca_sep, if_neg (by omega), ca_wls n (q :: ps) d _ e r (fun z m => h z (List.mem_cons_of_mem _ m)) he]
    simp only [List.append_assoc, List.singleton_append, List.cons_append, List.nil_append]
end
/-- top level: the parts come back -/
theorem ca_top : ∀ (ys : List (List Nat)) (d : List (List Nat)) (y : List Nat), (∀ z ∈ y :: ys, ∀ (d : List (List Nat)) (r : List Nat), ca 0 d [] 0 (z ++ r) = ca 0 d z 0 r) → ca 0 d [] 0 (TL.joinL [44, 32] (y :: ys)) = d ++ y :: ys
  | [], d, y, h => by
    have := h y List.mem_cons_self d []
    rw [List.append_nil] at this
    show ca 0 d [] 0 y = _
    rw [this, ca, if_pos (by decide)]
  | z :: ys, d, y, h => by
    show ca 0 d [] 0 (y ++ ([44, 32] ++ TL.joinL [44, 32] (z :: ys))) = _
    rw [h y List.mem_cons_self]
    show ca 0 d y 0 (44 :: 32 :: TL.joinL [44, 32] (z :: ys)) = _
    rw [ca_sep, if_pos (by decide), ca_top ys (d ++ [y]) z fun x m => h x (List.mem_cons_of_mem _ m), List.append_assoc]
    rfl
theorem split_wls {n : Nat} {p : Jb} {ps : List Jb} (h : ∀ q ∈ p :: ps, JW n q) : splitP (TL.joinL [44, 32] (wls (p :: ps))) = wls (p :: ps) := by
  rw [splitP_ca, wls]
  refine (ca_top (wls ps) [] (wl p) fun z m d r => ?_).trans rfl
  have : z ∈ wls (p :: ps) := by rw [wls]; exact m
  rw [wls_map] at this
  obtain ⟨q, mq, rfl⟩ := List.mem_map.mp this
  have := ca_wl n q d [] 0 r (h q mq) (by decide)
  rw [List.nil_append] at this
  exact this
theorem split_two {n : Nat} {c : Int} {j : Jb} (h : JW n j) : splitP (numI c ++ (44 :: 32 :: wl j)) = [numI c, wl j] := by
  rw [splitP_ca]
  refine (ca_top [wl j] [] (numI c) fun z m d r => ?_).trans rfl
  rcases List.mem_cons.mp m with rfl | m
  · have := ca_run (numI c) (d := d) (c := []) (e := 0) (r := r) (num_free c)
    rw [List.nil_append] at this
    exact this
  · rw [List.mem_singleton.mp m]
    have := ca_wl n j d [] 0 r h (by decide)
    rw [List.nil_append] at this
    exact this
end Tx
namespace Tx
open PySem Mi Pl
def prt (inner : List Nat) : List (List Nat) := if inner = [] then [] else splitP inner
def rin (f : List Nat → PyData) (w : Str) (inner : List Nat) : PyData :=
  if w = ("use" : Str) then .tuple [.str w, .str (sx inner)]
  else if isG w then .tuple [.str w, .tuple ((prt inner).map f)]
  else match prt inner with
    | [a, b] => if isM w then .tuple [.str w, iof a, f b] else .none
    | _ => .none
def rdd : Nat → List Nat → PyData
  | 0, _ => .none
  | n + 1, t => match TL.par [40] [] t with
    | none => iof t
    | some (w, rest) => if rest.drop (rest.length - 1) = [41] then rin (rdd n) (sx w) (rest.take (rest.length - 1)) else .none
theorem par_len {S : List Nat} : ∀ {l acc a b : List Nat}, TL.par S acc l = some (a, b) → b.length ≤ l.length
  | [], acc, a, b, h => by cases h
  | c :: r, acc, a, b, h => by
    cases hp : TL.pre S (c :: r) with
    | true =>
      rw [TL.par_hit hp] at h
      cases h
      rw [List.length_drop]
      omega
    | false =>
      rw [TL.par_miss hp] at h
      have := par_len h
      rw [List.length_cons]
      omega
theorem φ10 : ΦT ds 16 = some f16 := rfl
theorem φ11 : ΦT ds 17 = some f17 := rfl
theorem φ5 : ΦT ds 5 = some f5 := rfl
theorem φ7 : ΦT ds 13 = some f13 := rfl
theorem φ12 : ΦT ds 18 = some f18 := rfl
theorem φ13 : ΦT ds 19 = some f19 := rfl
theorem g4 : GT gs 4 = some (.int 13) := rfl
section
variable {h : Sh}
theorem p10 {K n : Nat} {w : Str} {inner : List Nat} {f : List Nat → PyData} (hl : inner.length ≤ 50000) (hx : ∀ y : List Nat, y.length ≤ inner.length → Cl (K + 1) 17 [.d (.str (sx y)), .d (.int n)] h = .ok (.d (f y)) h) :
    Cl (K + 2) 16 [.d (.str w), .d (.str (sx inner)), .d (.int ((n + 1 : Nat) : Int))] h = .ok (.d (rin f w inner)) h := by
  have zz := SZ_eq
  rw [Cl, call_at φ10 rfl]
  have sub : ∀ E : En, E[2]? = some (.v (.d (.int ((n + 1 : Nat) : Int)))) → Ev (K + 1) (.bin .Sub (.var 2) (.cst (.int 1))) E h = .ok (.d (.int n)) h := fun E hE => by
    refine e_bin (e_var hE) rfl ?_
    show some (PyData.int (((n + 1 : Nat) : Int) - 1)) = _
    rw [show ((n + 1 : Nat) : Int) - 1 = (n : Int) by omega]
  have tu : tru (Ev (K + 1) (.cmp .Eq (.var 0) (.glob 17)) [.v (.d (.str w)), .v (.d (.str (sx inner))), .v (.d (.int ((n + 1 : Nat) : Int))), .no, .no] h) = .ok (decide (w = ("use" : Str))) h := t_cmp rfl (e_glob g14) (cmp_eq.trans eq_str)
  unfold rin
  by_cases c : w = ("use" : Str)
  · rw [if_pos c]
    refine fin_end (s_ifT (tu.trans (by rw [decide_eq_true c])) (s_ret ?_))
    have := e_tup (es_cons (e_glob (C := Cf (K + 1)) (G := GT gs) (env := [.v (.d (.str w)), .v (.d (.str (sx inner))), .v (.d (.int ((n + 1 : Nat) : Int))), .no, .no]) (h := h) g14) (es_cons (e := .var 1) (x := .d (.str (sx inner))) rfl es_nil)) rfl (Nat.le_of_ble_eq_true rfl)
    rw [c]
    rw [c] at this
    exact this
  · rw [if_neg c]
    refine fin_end ((s_ifF (tu.trans (by rw [decide_eq_false c]))).trans ?_)
    have a0 : Ev (K + 1) (.ite (.cmp .NotEq (.var 1) (.cst (.str ""))) (.call 15 [.var 1]) (.ofL (.disp []))) [.v (.d (.str w)), .v (.d (.str (sx inner))), .v (.d (.int ((n + 1 : Nat) : Int))), .no, .no] h = .ok (.d (.list (strL (prt inner)))) h := by
      have t : tru (Ev (K + 1) (.cmp .NotEq (.var 1) (.cst (.str ""))) [.v (.d (.str w)), .v (.d (.str (sx inner))), .v (.d (.int ((n + 1 : Nat) : Int))), .no, .no] h) = .ok (!decide (inner = [])) h := t_cmp rfl (ecs c_em) (cmp_ne.trans (by rw [eq_sx]; rfl))
      refine (e_ite t).trans ?_
      unfold prt
      by_cases ci : inner = []
      · rw [decide_eq_true ci, if_pos ci]
        exact e_disp es_nil rfl (Nat.zero_le _)
      · rw [decide_eq_false ci, if_neg ci]
        exact (e_call rfl).trans (p9 (k := K) hl)
    refine (s_asg a0 rfl).trans ?_
    have pb : ∀ y ∈ prt inner, y.length ≤ inner.length := fun y m => by
      unfold prt at m
      split at m
      · cases m
      · exact splitP_b m
    have pl : (prt inner).length ≤ 50001 := by
      unfold prt
      split
      · decide
      · have := splitP_l inner; omega
    generalize hpr : prt inner = pr at *
    have tG := cmp_in (K := K + 1) (env := [.v (.d (.str w)), .v (.d (.str (sx inner))), .v (.d (.int ((n + 1 : Nat) : Int))), .v (.d (.list (strL pr))), .no]) (h := h) (a := .var 0) (w := w) rfl g12
    rw [memG] at tG
    by_cases cG : isG w
    · rw [if_pos cG]
      have cz := comp_zip (C := Cf (K + 1)) (G := GT gs) (tg := .n 4) (elt := Ev (K + 1) (.call 17 [.var 4, .bin .Sub (.var 2) (.cst (.int 1))])) (env := [.v (.d (.str w)), .v (.d (.str (sx inner))), .v (.d (.int ((n + 1 : Nat) : Int))), .v (.d (.list (strL pr))), .no]) (pr.map fun y => (PyData.str (sx y), f y)) (h := h) fun z m => by
        obtain ⟨y, my, rfl⟩ := List.mem_map.mp m
        exact ⟨_, rfl, (e_call (es_cons rfl (es_cons (sub _ rfl) es_nil))).trans (hx y (pb y my))⟩
      have a1 : (pr.map fun y => (PyData.str (sx y), f y)).map (·.1) = strL pr := by rw [List.map_map]; rfl
      have a2 : (pr.map fun y => (PyData.str (sx y), f y)).map (·.2) = pr.map f := by rw [List.map_map]; rfl
      rw [a1, a2] at cz
      exact s_ifT (tG.trans (by rw [decide_eq_true cG])) (s_ret (e_tup (es_cons rfl (es_cons (e_bi (es_cons (e_comp (kk := .seq) (es_cons rfl es_nil) rfl (by rw [strL_len]; omega) cz) es_nil) rfl rfl) es_nil)) rfl (Nat.le_of_ble_eq_true rfl)))
    · rw [if_neg cG]
      refine (s_ifF (tG.trans (by rw [decide_eq_false cG]))).trans ?_
      have tM := cmp_in (K := K + 1) (env := [.v (.d (.str w)), .v (.d (.str (sx inner))), .v (.d (.int ((n + 1 : Nat) : Int))), .v (.d (.list (strL pr))), .no]) (h := h) (a := .var 0) (w := w) rfl g13
      rw [memM] at tM
      have t2 : tru (Ev (K + 1) (.cmp .Eq (.bi .len [.var 3]) (.cst (.int 2))) [.v (.d (.str w)), .v (.d (.str (sx inner))), .v (.d (.int ((n + 1 : Nat) : Int))), .v (.d (.list (strL pr))), .no] h) = .ok (decide (pr.length = 2)) h := by
        refine t_cmp (e_bi (es_cons rfl es_nil) rfl rfl) rfl (cmp_eq.trans (eq_int.trans ?_))
        rw [strL_len]
        congr 1
        rw [decide_eq_decide]
        omega
      have tt := t_and tM fun _ => t_and1.trans t2
      by_cases c2 : isM w ∧ pr.length = 2
      · obtain ⟨a, b, rfl⟩ : ∃ a b, pr = [a, b] := by
          rcases pr with _ | ⟨a, _ | ⟨b, _ | ⟨_, _⟩⟩⟩
          · cases c2.2
          · cases c2.2
          · exact ⟨a, b, rfl⟩
          · exact absurd c2.2 (by simp)
        dsimp only
        rw [if_pos c2.1]
        refine s_ifT (tt.trans (by rw [decide_eq_true c2.1, decide_eq_true c2.2]; rfl)) (s_ret ?_)
        have i0 : Ev (K + 1) (.ix (.var 3) (.cst (.int 0))) [.v (.d (.str w)), .v (.d (.str (sx inner))), .v (.d (.int ((n + 1 : Nat) : Int))), .v (.d (.list (strL [a, b]))), .no] h = .ok (.d (.str (sx a))) h := e_ix (x := .list (strL [a, b])) rfl rfl at_0
        have i1 : Ev (K + 1) (.ix (.var 3) (.cst (.int 1))) [.v (.d (.str w)), .v (.d (.str (sx inner))), .v (.d (.int ((n + 1 : Nat) : Int))), .v (.d (.list (strL [a, b]))), .no] h = .ok (.d (.str (sx b))) h := e_ix (x := .list (strL [a, b])) rfl rfl at_1
        have la := pb a (by simp)
        have lb := pb b (by simp)
        exact e_tup (es_cons rfl (es_cons ((e_call (es_cons i0 es_nil)).trans (p6 (k := K) (by omega))) (es_cons ((e_call (es_cons i1 (es_cons (sub _ rfl) es_nil))).trans (hx b lb)) es_nil))) rfl (Nat.le_of_ble_eq_true rfl)
      · have ff : (decide (isM w) && decide (pr.length = 2)) = false := by
          rw [← Bool.decide_and]
          exact decide_eq_false c2
        refine (s_ifF (tt.trans (by rw [ff]))).trans ((s_ret rfl).trans ?_)
        rcases pr with _ | ⟨a, _ | ⟨b, _ | ⟨_, _⟩⟩⟩
        · rfl
        · rfl
        · have : ¬ isM w := fun z => c2 ⟨z, rfl⟩
          dsimp only
          rw [if_neg this]
        · rfl
theorem p11 : ∀ (n : Nat) (t : List Nat) (k : Nat), t.length ≤ 50000 → Cl (k + 2 * n + 1) 17 [.d (.str (sx t)), .d (.int n)] h = .ok (.d (rdd n t)) h
  | 0, t, k, hl => by
    rw [Cl, call_at φ11 rfl]
    exact fin_end (s_ifT (h1 := h) (t_cmp rfl rfl rfl) (s_ret rfl))
  | n + 1, t, k, hl => by
    have zz := SZ_eq
    rw [show k + 2 * (n + 1) + 1 = (k + 2 * n + 2) + 1 by omega, Cl, call_at φ11 rfl]
    have z0 : decide (((n + 1 : Nat) : Int) = 0) = false := decide_eq_false (by omega)
    refine fin_end ((s_ifF (h1 := h) (t_cmp rfl rfl (cmp_eq.trans (eq_int.trans (by rw [z0]))))).trans ?_)
    have pe := part_sx (s := [40]) (l := t) (by simp) (by omega)
    rw [rdd]
    cases hp : TL.par [40] [] t with
    | none =>
      rw [hp] at pe
      refine (s_asg (e_me (m := .partition) (x := sx t) rfl (es_cons (e_glob g9) es_nil) rfl pe) rfl).trans ?_
      exact s_ifT (h1 := h) (t_cmp (x := .str (sx [])) rfl (ecs c_em) (cmp_eq.trans (eq_sx.trans (by rw [decide_eq_true rfl])))) (s_ret ((e_call rfl).trans (p6 (by omega))))
    | some q =>
      obtain ⟨w, rest⟩ := q
      rw [hp] at pe
      have lr := par_len hp
      dsimp only
      refine (s_asg (e_me (m := .partition) (x := sx t) rfl (es_cons (e_glob g9) es_nil) rfl pe) rfl).trans ?_
      refine (s_ifF (h1 := h) (t_cmp (x := .str (sx [40])) rfl (ecs c_em) (cmp_eq.trans (eq_sx.trans (by rw [decide_eq_false (by simp)]))))).trans (s_ret ?_)
      have n1 : Ev (k + 2 * n + 2) (.neg (.cst (.int 1))) [.v (.d (.str (sx t))), .v (.d (.int ((n + 1 : Nat) : Int))), .v (.d (.str (sx w))), .v (.d (.str (sx [40]))), .v (.d (.str (sx rest)))] h = .ok (.d (.int (-1))) h := rfl
      have tl' : tru (Ev (k + 2 * n + 2) (.cmp .Eq (.sliceF (.var 4) (.neg (.cst (.int 1)))) (.glob 13)) [.v (.d (.str (sx t))), .v (.d (.int ((n + 1 : Nat) : Int))), .v (.d (.str (sx w))), .v (.d (.str (sx [40]))), .v (.d (.str (sx rest)))] h) = .ok (decide (rest.drop (rest.length - 1) = [41])) h := t_cmp (e_slF' rfl n1 (sl_last (by omega))) (e_glob g10) (cmp_eq.trans eq_sx)
      refine (e_ite tl').trans ?_
      by_cases c : rest.drop (rest.length - 1) = [41]
      · rw [decide_eq_true c, if_pos rfl, if_pos c]
        refine (e_call (es_cons rfl (es_cons (e_slT' rfl n1 (sl_init (by omega))) (es_cons rfl es_nil)))).trans (p10 (K := k + 2 * n) (f := rdd n) ?_ fun y hy => ?_)
        · rw [List.length_take]; omega
        · rw [List.length_take] at hy
          exact p11 n y k (by omega)
      · rw [decide_eq_false c, if_neg Bool.false_ne_true, if_neg c]
        rfl
/-! reading what was written -/
theorem numL_head : ∀ (n : Nat), 1 ≤ n → (TL.numL n).head? ≠ some 48 := fun n => by
  induction n using Nat.strongRecOn with
  | _ n ih =>
    intro hn
    by_cases c : n < 10
    · rw [TL.numL_lt c]
      show some (48 + n) ≠ some 48
      simp; omega
    · rw [TL.numL_step (by omega)]
      have := ih (n / 10) (by omega) (by omega)
      cases e : TL.numL (n / 10) with
      | nil => exact absurd e (TL.numL_ne _)
      | cons a r => rw [e] at this; exact this
theorem dgs_num (i : Int) : dgs (numI i) = TL.numL i.natAbs := by
  unfold dgs numI
  by_cases c : i < 0
  · rw [if_pos c, if_pos (show (45 :: TL.numL i.natAbs).take 1 = [45] from rfl)]; rfl
  · rw [if_neg c, if_neg]
    intro z
    have hd := TL.numL_digits i.natAbs
    cases e : TL.numL i.natAbs with
    | nil => rw [e] at z; cases z
    | cons a r =>
      rw [e] at z hd
      have : a = 45 := by simpa using z
      have := hd a List.mem_cons_self
      omega
theorem iof_num {i : Int} (hi : -mxI ≤ i ∧ i ≤ mxI) : iof (numI i) = .int i := by
  unfold iof
  rw [dgs_num]
  have l1 : (TL.numL i.natAbs).length ≤ 31 := TL.numL_len (by decide) (by rw [mx] at hi; rw [ten31]; omega)
  have l2 : 1 ≤ (TL.numL i.natAbs).length := List.length_pos_iff.mpr (TL.numL_ne _)
  rw [if_pos ⟨⟨l2, by omega⟩, dig_all (TL.numL_digits _)⟩, if_neg, valI_num]
  intro z
  by_cases c : i = 0
  · exact z.2 (by rw [c]; decide)
  · exact numL_head i.natAbs (by omega) z.1
theorem no40 (i : Int) : (40 : Nat) ∉ numI i := fun m => (num_free i 40 m).2.1 rfl
theorem wl_ne (j : Jb) : wl j ≠ [] := by
  cases j with
  | st i =>
    rw [wl]
    unfold numI
    split
    · simp
    · exact TL.numL_ne _
  | us l => rw [wl]; simp
  | gr w ps => rw [wl]; simp
  | ml w c j => rw [wl]; simp
theorem last_41 (a : List Nat) : (a ++ [41]).drop ((a ++ [41]).length - 1) = [41] ∧ (a ++ [41]).take ((a ++ [41]).length - 1) = a := by
  rw [List.length_append, List.length_singleton, Nat.add_sub_cancel]
  exact ⟨List.drop_left, List.take_left⟩
theorem rdd_wl : ∀ (n : Nat) (j : Jb), JW n j → rdd n (wl j) = enc j
  | 0, j, h => by rw [JW] at h; exact h.elim
  | n + 1, .st i, h => by
    rw [JW] at h
    rw [wl, enc, rdd, TL.par_none1 (no40 i)]
    exact iof_num h
  | n + 1, .us u, hw => by
    rw [JW] at hw
    have f40 : (40 : Nat) ∉ sg "use" := fun m => (us_free 40 m).2.1 rfl
    have l := last_41 u
    rw [wl, enc, rdd, show sg "use" ++ (40 :: (u ++ [41])) = sg "use" ++ ([40] ++ (u ++ [41])) from rfl, TL.par_part1 f40]
    dsimp only
    rw [if_pos l.1, l.2, List.nil_append, sx_sg]
    unfold rin
    rw [if_pos rfl]
  | n + 1, .gr w ps, hw => by
    have hw' := hw
    rw [JW] at hw
    have f40 : (40 : Nat) ∉ sg w := fun m => (w_free (.inl hw.1) 40 m).2.1 rfl
    have l := last_41 (TL.joinL [44, 32] (wls ps))
    rw [wl, enc, rdd, show sg w ++ (40 :: (TL.joinL [44, 32] (wls ps) ++ [41])) = sg w ++ ([40] ++ (TL.joinL [44, 32] (wls ps) ++ [41])) from rfl, TL.par_part1 f40]
    dsimp only
    rw [if_pos l.1, l.2, List.nil_append, sx_sg]
    unfold rin
    rw [if_neg (not_use (.inl hw.1)), if_pos hw.1]
    congr 3
    cases ps with
    | nil => rw [wls, encs]; rfl
    | cons p ps =>
      have ne : TL.joinL [44, 32] (wls (p :: ps)) ≠ [] := by
        rw [wls, joinL_flat]
        have := wl_ne p
        simp [this]
      unfold prt
      rw [if_neg ne, split_wls hw.2.2, wls_map, encs_map, List.map_map]
      congr 1
      exact List.map_congr_left fun q m => rdd_wl n q (hw.2.2 q m)
  | n + 1, .ml w c j, hw => by
    rw [JW] at hw
    have f40 : (40 : Nat) ∉ sg w := fun m => (w_free (.inr hw.1) 40 m).2.1 rfl
    have l := last_41 (numI c ++ (44 :: 32 :: wl j))
    have e0 : numI c ++ (44 :: 32 :: (wl j ++ [41])) = (numI c ++ (44 :: 32 :: wl j)) ++ [41] := by simp
    rw [wl, enc, rdd, e0, show sg w ++ (40 :: ((numI c ++ (44 :: 32 :: wl j)) ++ [41])) = sg w ++ ([40] ++ ((numI c ++ (44 :: 32 :: wl j)) ++ [41])) from rfl, TL.par_part1 f40]
    dsimp only
    rw [if_pos l.1, l.2, List.nil_append, sx_sg]
    unfold rin prt
    rw [if_neg (not_use (.inr hw.1)), if_neg (isM_not hw.1), if_neg (by simp), split_two hw.2.2]
    dsimp only
    rw [if_pos hw.1, iof_num (cnt_b hw.2.1), rdd_wl n j hw.2.2]
end
end Tx
namespace Tx
open PySem Mi Pl
/-! ### the law's own reading: digits -/
def sgn (s : List Nat) : Nat := if s.take 1 = [45] then 1 else 0
def dgt (s : List Nat) : List Nat := (s.drop (sgn s)).takeWhile dig
def dg (s : List Nat) : Nat := if dgt s = [] ∨ ((dgt s).head? = some 48 ∧ (1 < (dgt s).length ∨ 0 < sgn s)) then 0 else sgn s + (dgt s).length
theorem φ25 : ΦT ds 32 = some f32 := rfl
abbrev pos (t s : List Nat) : Nat := t.length - s.length
theorem drop_pos {t s : List Nat} (h : s <:+ t) : t.drop (pos t s) = s := by
  obtain ⟨p, rfl⟩ := h
  unfold pos
  rw [List.length_append, Nat.add_sub_cancel, List.drop_left]
theorem suf_len {t s : List Nat} (h : s <:+ t) : s.length ≤ t.length := h.length_le
theorem pos_drop {t s : List Nat} (h : s <:+ t) (k : Nat) (hk : k ≤ s.length) : pos t (s.drop k) = pos t s + k := by
  have := suf_len h
  unfold pos
  rw [List.length_drop]
  omega
theorem tw_split (l : List Nat) : l = l.takeWhile dig ++ l.dropWhile dig := List.takeWhile_append_dropWhile.symm
theorem tw_all : ∀ (l : List Nat), (l.takeWhile dig).all dig = true
  | [] => rfl
  | c :: r => by
    rw [List.takeWhile_cons]
    cases h : dig c with
    | true => rw [if_pos rfl, List.all_cons, h, tw_all r]; rfl
    | false => rw [if_neg Bool.false_ne_true]; rfl
theorem dw_head : ∀ (l : List Nat) (c : Nat) (r : List Nat), l.dropWhile dig = c :: r → dig c = false
  | [], c, r, h => by cases h
  | a :: l, c, r, h => by
    rw [List.dropWhile_cons] at h
    cases ha : dig a with
    | true => rw [ha, if_pos rfl] at h; exact dw_head l c r h
    | false =>
      rw [ha, if_neg Bool.false_ne_true] at h
      cases h
      exact ha
section
variable {h : Sh}
theorem wh25 {K : Nat} {t : List Nat} {s1 s3 : Sl} (ht : t.length ≤ 100000) : ∀ (l : List Nat) (b W : Nat) (r : List Nat), t.drop b = l ++ r → l.all dig = true → (∀ c r', r = c :: r' → dig c = false) → l.length < W →
    whLoop (fun e g => tru (Ev K (.and [.cmp .NotEq (.sliceB (.var 0) (.var 2) (.bin .Add (.var 2) (.cst (.int 1)))) (.cst (.str "")), .cmp .In (.ix (.var 0) (.var 2)) (.cst (.str "0123456789"))]) e g)) (evSs (Cf K) (GT gs) 50000 [.asg (.n 2) (.bin .Add (.var 2) (.cst (.int 1)))]) W
      [.v (.d (.str (sx t))), s1, .v (.d (.int b)), s3] h = .ok (.nx [.v (.d (.str (sx t))), s1, .v (.d (.int ((b + l.length : Nat) : Int))), s3]) h := by
  have zz := SZ_eq
  have slb : ∀ b : Nat, Ev K (.sliceB (.var 0) (.var 2) (.bin .Add (.var 2) (.cst (.int 1)))) [.v (.d (.str (sx t))), s1, .v (.d (.int b)), s3] h = .ok (.d (.str (sx ((t.drop b).take 1)))) h := fun b => by
    have := sl_btw (l := t) (i := b) (j := b + 1) (by omega)
    rw [Nat.add_sub_cancel_left] at this
    exact e_slB' rfl rfl rfl this
  intro l
  induction l with
  | nil =>
    intro b W r hd _ hr hW
    obtain ⟨W, rfl⟩ : ∃ W', W = W' + 1 := ⟨W - 1, by rw [List.length_nil] at hW; omega⟩
    rw [List.nil_append] at hd
    refine wh_stop ?_
    cases r with
    | nil =>
      refine t_andF (t_cmp (slb b) (ecs c_em) (cmp_ne.trans ?_))
      rw [eq_sx, hd]; rfl
    | cons c r' =>
      have hc := hr c r' rfl
      have hb : b < t.length := by
        by_cases z : b < t.length
        · exact z
        · rw [List.drop_eq_nil_of_le (by omega)] at hd; cases hd
      have hx : t[b]? = some c := by
        have := congrArg List.head? hd
        rw [List.head?_drop] at this
        exact this
      refine (t_andT (t_cmp (slb b) (ecs c_em) (cmp_ne.trans ?_))).trans (t_and1.trans (t_cmp (e_ix rfl rfl (ix_sx (k := b) (by omega) hx)) (ecs c_dd) (in_sx.trans (by rw [mem_D10, hc]))))
      rw [eq_sx, hd]; rfl
  | cons c l ih =>
    intro b W r hd ha hr hW
    rw [List.all_cons, Bool.and_eq_true] at ha
    rw [List.length_cons] at hW
    obtain ⟨W, rfl⟩ : ∃ W', W = W' + 1 := ⟨W - 1, by omega⟩
    have hx : t[b]? = some c := by
      have := congrArg List.head? hd
      rw [List.head?_drop] at this
      exact this
    have hd2 : t.drop (b + 1) = l ++ r := by
      rw [← List.drop_drop, hd]; rfl
    have nx := ih (b + 1) W r hd2 ha.2 hr (by omega)
    rw [show b + 1 + l.length = b + (c :: l).length by rw [List.length_cons]; omega] at nx
    refine wh_next (h1 := h) (h2 := h) (e1 := [.v (.d (.str (sx t))), s1, .v (.d (.int ((b + 1 : Nat) : Int))), s3]) ?_ ?_ nx
    · refine (t_andT (t_cmp (slb b) (ecs c_em) (cmp_ne.trans ?_))).trans (t_and1.trans (t_cmp (e_ix rfl rfl (ix_sx (k := b) (by omega) hx)) (ecs c_dd) (in_sx.trans (by rw [mem_D10, ha.1]))))
      rw [eq_sx, hd]; rfl
    · exact (s_asg (v := .d (.int ((b + 1 : Nat) : Int))) (e_bin rfl rfl rfl) rfl).trans ss_nil
theorem p25 {k : Nat} {t s : List Nat} (ht : t.length ≤ 35000) (hs : s <:+ t) : Cl (k + 1) 32 [.d (.str (sx t)), .d (.int (pos t s))] h = .ok (.d (.int ((pos t s + dg s : Nat) : Int))) h := by
  have zz := SZ_eq
  have sl := suf_len hs
  have dp := drop_pos hs
  generalize hq : pos t s = a at *
  have a0 : a + s.length = t.length := by rw [← hq]; unfold pos; omega
  rw [Cl, call_at φ25 rfl]
  have s1 : Ev k (.bin .Add (.var 1) (.bi .int [.cmp .Eq (.sliceB (.var 0) (.var 1) (.bin .Add (.var 1) (.cst (.int 1)))) (.cst (.str "-"))])) [.v (.d (.str (sx t))), .v (.d (.int a)), .no, .no] h = .ok (.d (.int ((a + sgn s : Nat) : Int))) h := by
    have b := sl_btw (l := t) (i := a) (j := a + 1) (by omega)
    rw [Nat.add_sub_cancel_left, dp] at b
    have c := e_cmp (e_slB' (C := Cf k) (G := GT gs) (env := [.v (.d (.str (sx t))), .v (.d (.int a)), .no, .no]) (h := h) (a := .var 0) (lo := .var 1) (hi := .bin .Add (.var 1) (.cst (.int 1))) rfl rfl rfl b) (ecs c_mi) (cmp_eq.trans eq_sx)
    refine e_bin (y := .int (sgn s)) rfl (e_bi (es_cons c es_nil) rfl ?_) rfl
    show some (PyData.int (if decide (s.take 1 = [45]) = true then 1 else 0)) = _
    unfold sgn
    by_cases z : s.take 1 = [45]
    · rw [decide_eq_true z, if_pos rfl, if_pos z]; rfl
    · rw [decide_eq_false z, if_neg Bool.false_ne_true, if_neg z]; rfl
  refine fin_end ((s_asg s1 rfl).trans ((s_asg rfl rfl).trans ?_))
  have sg1 : sgn s ≤ s.length := by
    unfold sgn
    split
    · rename_i z
      cases s with
      | nil => cases z
      | cons _ _ => rw [List.length_cons]; omega
    · omega
  have hd : t.drop (a + sgn s) = dgt s ++ (s.drop (sgn s)).dropWhile dig := by
    rw [← List.drop_drop, dp]
    exact tw_split _
  have dl : sgn s + (dgt s).length ≤ s.length := by
    have := congrArg List.length (tw_split (s.drop (sgn s)))
    rw [List.length_append, List.length_drop] at this
    unfold dgt
    omega
  have wl' := wh25 (h := h) (K := k) (s1 := .v (.d (.int a))) (s3 := .v (.d (.int ((a + sgn s : Nat) : Int)))) (show t.length ≤ 100000 by omega) (dgt s) (a + sgn s) 50000 _ hd (tw_all _) (fun c r' => dw_head _ c r') (by omega)
  refine (s_while wl').trans ?_
  have e2 : tru (Ev k (.cmp .Eq (.var 2) (.var 3)) [.v (.d (.str (sx t))), .v (.d (.int a)), .v (.d (.int ((a + sgn s + (dgt s).length : Nat) : Int))), .v (.d (.int ((a + sgn s : Nat) : Int)))] h) = .ok (decide (dgt s = [])) h := by
    refine t_cmp rfl rfl (cmp_eq.trans (eq_int.trans ?_))
    congr 1
    rw [decide_eq_decide]
    constructor
    · intro z
      exact List.length_eq_zero_iff.mp (by omega)
    · intro z
      rw [z, List.length_nil]; omega
  unfold dg
  by_cases c : dgt s = []
  · rw [if_pos (.inl c)]
    exact s_ifT ((t_orT (e2.trans (by rw [decide_eq_true c])))) (s_ret rfl)
  · obtain ⟨d0, r0, er⟩ : ∃ d r, dgt s = d :: r := by
      cases e : dgt s with
      | nil => exact absurd e c
      | cons a r => exact ⟨a, r, rfl⟩
    have hx : t[a + sgn s]? = some d0 := by
      have := congrArg List.head? hd
      rw [List.head?_drop, er] at this
      exact this
    have e3 : tru (Ev k (.cmp .Eq (.ix (.var 0) (.var 3)) (.cst (.str "0"))) [.v (.d (.str (sx t))), .v (.d (.int a)), .v (.d (.int ((a + sgn s + (dgt s).length : Nat) : Int))), .v (.d (.int ((a + sgn s : Nat) : Int)))] h) = .ok (decide ((dgt s).head? = some 48)) h := by
      refine t_cmp (e_ix rfl rfl (ix_sx (k := a + sgn s) (by omega) hx)) (ecs c_ze) (cmp_eq.trans (eq_sx.trans ?_))
      rw [er]
      congr 1
      rw [decide_eq_decide]
      simp
    have e4 : tru (Ev k (.or [.cmp .Gt (.var 2) (.bin .Add (.var 3) (.cst (.int 1))), .cmp .Gt (.var 3) (.var 1)]) [.v (.d (.str (sx t))), .v (.d (.int a)), .v (.d (.int ((a + sgn s + (dgt s).length : Nat) : Int))), .v (.d (.int ((a + sgn s : Nat) : Int)))] h) = .ok (decide (1 < (dgt s).length ∨ 0 < sgn s)) h := by
      refine (t_or (t_cmp rfl (e_bin rfl rfl rfl) rfl) fun _ => t_or1.trans (t_cmp rfl rfl rfl)).trans ?_
      congr 1
      rw [Bool.eq_iff_iff, Bool.or_eq_true]
      simp only [decide_eq_true_eq]
      constructor
      · intro z
        rcases z with z | z
        · left; omega
        · right; omega
      · intro z
        rcases z with z | z
        · left; omega
        · right; omega
    have tt := (t_orF (r := []) (b := .and [.cmp .Eq (.ix (.var 0) (.var 3)) (.cst (.str "0")), .or [.cmp .Gt (.var 2) (.bin .Add (.var 3) (.cst (.int 1))), .cmp .Gt (.var 3) (.var 1)]]) (e2.trans (by rw [decide_eq_false c]))).trans (t_or1.trans (t_and e3 fun _ => t_and1.trans e4))
    by_cases c2 : (dgt s).head? = some 48 ∧ (1 < (dgt s).length ∨ 0 < sgn s)
    · rw [if_pos (.inr c2)]
      exact s_ifT (tt.trans (by rw [decide_eq_true c2.1, decide_eq_true c2.2]; rfl)) (s_ret rfl)
    · rw [if_neg (fun z => z.elim c c2)]
      refine (s_ifF (tt.trans (by rw [← Bool.decide_and, decide_eq_false c2]))).trans (s_ret ?_)
      rw [← Nat.add_assoc]
      rfl
end
end Tx
namespace Tx
open PySem Mi Pl
/-! ### the law's own reading, by what is left of the text -/
def W5 : List Str := ["seq", "par", "repeat", "copies", "use"]
def lp (f : List Nat → Option (PyData × List Nat)) : Nat → List PyData → List Nat → Option (List PyData × List Nat)
  | 0, _, _ => none
  | m + 1, ps, s => if s.take 1 = [41] then some (ps, s.drop 1)
    else if ps ≠ [] ∧ s.take 2 ≠ [44, 32] then none
    else match f (if ps = [] then s else s.drop 2) with
      | none => none
      | some (d, r) => lp f m (ps ++ [d]) r
def nxp (f : List Nat → Option (PyData × List Nat)) (m : Nat) (ps : List PyData) : Option (PyData × List Nat) → Option (List PyData × List Nat)
  | none => none
  | some (d, r) => lp f m (ps ++ [d]) r
theorem lp_hit {f : List Nat → Option (PyData × List Nat)} {m : Nat} {ps : List PyData} {s : List Nat} (c : s.take 1 = [41]) : lp f (m + 1) ps s = some (ps, s.drop 1) := by
  rw [lp, if_pos c]
theorem lp_bad {f : List Nat → Option (PyData × List Nat)} {m : Nat} {ps : List PyData} {s : List Nat} (c : s.take 1 ≠ [41]) (c2 : ps ≠ [] ∧ s.take 2 ≠ [44, 32]) : lp f (m + 1) ps s = none := by
  rw [lp, if_neg c, if_pos c2]
theorem lp_one {f : List Nat → Option (PyData × List Nat)} {m : Nat} {s : List Nat} (c : s.take 1 ≠ [41]) : lp f (m + 1) [] s = nxp f m [] (f s) := by
  rw [lp, if_neg c, if_neg (fun z => z.1 rfl), if_pos rfl]
  cases f s <;> rfl
theorem lp_more {f : List Nat → Option (PyData × List Nat)} {m : Nat} {ps : List PyData} {s : List Nat} (c : s.take 1 ≠ [41]) (c2 : ps ≠ []) (c3 : s.take 2 = [44, 32]) : lp f (m + 1) ps s = nxp f m ps (f (s.drop 2)) := by
  rw [lp, if_neg c, if_neg (fun z => z.2 c3), if_neg c2]
  cases f (s.drop 2) <;> rfl
def fin27 (w : Str) : Option (List PyData × List Nat) → Option (PyData × List Nat)
  | none => none
  | some (ps, r) => if isG w then some (.tuple [.str w, .tuple ps], r) else match ps with
    | [a, b] => if isT .int a = true then some (.tuple [.str w, a, b], r) else none
    | _ => none
def lr : Nat → List Nat → Option (PyData × List Nat)
  | 0, _ => none
  | n + 1, s => if 0 < dg s then (if dg s < 99 then some (.int (valI (s.take (dg s))), s.drop (dg s)) else none)
    else match TL.par [40] [] s with
      | none => none
      | some (a, s1) => if sx a ∈ W5 then (if sx a = ("use" : Str) then (match TL.par [41] [] s1 with
          | none => none
          | some (nm, r) => some (.tuple [.str "use", .str (sx nm)], r))
        else fin27 (sx a) (lp (lr n) (s1.length + 1) [] s1)) else none
theorem par1_some {c : Nat} : ∀ {l acc a b : List Nat}, TL.par [c] acc l = some (a, b) → ∃ p, a = acc ++ p ∧ l = p ++ c :: b ∧ c ∉ p
  | [], acc, a, b, h => by cases h
  | x :: r, acc, a, b, h => by
    by_cases e : x = c
    · subst e
      have hp : TL.pre [x] (x :: r) = true := TL.pre_self [x] r
      rw [TL.par_hit hp] at h
      cases h
      exact ⟨[], by rw [List.append_nil], rfl, List.not_mem_nil⟩
    · rw [TL.par_miss (TL.pre_of_head _ _ e)] at h
      obtain ⟨p, e1, e2, e3⟩ := par1_some h
      refine ⟨x :: p, by rw [e1, List.append_assoc]; rfl, by rw [e2]; rfl, fun m => ?_⟩
      rcases List.mem_cons.mp m with z | z
      · exact e z.symm
      · exact e3 z
theorem par1_none {c : Nat} : ∀ {l acc : List Nat}, TL.par [c] acc l = none → c ∉ l
  | [], _, _ => List.not_mem_nil
  | x :: r, acc, h => by
    by_cases e : x = c
    · subst e
      have hp : TL.pre [x] (x :: r) = true := TL.pre_self [x] r
      rw [TL.par_hit hp] at h
      cases h
    · rw [TL.par_miss (TL.pre_of_head _ _ e)] at h
      intro m
      rcases List.mem_cons.mp m with z | z
      · exact e z.symm
      · exact par1_none h z
/-- never more than n signs ( ahead of their ) -/
def B (n : Nat) (s : List Nat) : Prop := ∀ p r, s = p ++ r → p.count 40 ≤ p.count 41 + n
theorem B.behind {n m : Nat} {p r : List Nat} (b : B n (p ++ r)) (h : p.count 41 + n ≤ p.count 40 + m) : B m r := fun q u e => by
  have := b (p ++ q) u (by rw [e, List.append_assoc])
  rw [List.count_append, List.count_append] at this
  omega
theorem dg_le (s : List Nat) : dg s ≤ s.length := by
  have sg1 : sgn s ≤ s.length := by
    unfold sgn
    split
    · rename_i z
      cases s with
      | nil => cases z
      | cons _ _ => rw [List.length_cons]; omega
    · omega
  have := congrArg List.length (tw_split (s.drop (sgn s)))
  rw [List.length_append, List.length_drop] at this
  unfold dg
  split
  · omega
  · unfold dgt
    omega
/-- the signs of a number read -/
theorem dg_take {s : List Nat} (h : 0 < dg s) : s.take (dg s) = s.take (sgn s) ++ dgt s ∧ (dgt s).all dig = true ∧ dgt s ≠ [] := by
  unfold dg at h ⊢
  split at h
  · cases h
  · rename_i hc
    rw [if_neg hc]
    refine ⟨?_, tw_all _, fun z => hc (.inl z)⟩
    have e := tw_split (s.drop (sgn s))
    have e0 : s = s.take (sgn s) ++ s.drop (sgn s) := (List.take_append_drop _ _).symm
    have sg1 : sgn s ≤ s.length := by
      unfold sgn
      split
      · rename_i z
        cases s with
        | nil => cases z
        | cons _ _ => rw [List.length_cons]; omega
      · omega
    have l1 : (s.take (sgn s)).length = sgn s := by rw [List.length_take]; omega
    have : s = (s.take (sgn s) ++ dgt s) ++ (s.drop (sgn s)).dropWhile dig := by
      rw [List.append_assoc]
      unfold dgt
      rw [← e]
      exact e0
    have l2 : (s.take (sgn s) ++ dgt s).length = sgn s + (dgt s).length := by rw [List.length_append, l1]
    calc s.take (sgn s + (dgt s).length) = ((s.take (sgn s) ++ dgt s) ++ (s.drop (sgn s)).dropWhile dig).take (s.take (sgn s) ++ dgt s).length := by rw [← this, l2]
      _ = _ := List.take_left
theorem dig_no {c : Nat} (h : dig c = true) : c ≠ 40 ∧ c ≠ 41 := by
  unfold dig at h
  rw [Bool.and_eq_true, decide_eq_true_eq, decide_eq_true_eq] at h
  omega
theorem cnt_dig {l : List Nat} {c : Nat} (h : l.all dig = true) (hc : c = 40 ∨ c = 41) : l.count c = 0 := by
  refine List.count_eq_zero.mpr fun m => ?_
  have := dig_no (List.all_eq_true.mp h c m)
  omega
theorem cnt_num {s : List Nat} (h : 0 < dg s) {c : Nat} (hc : c = 40 ∨ c = 41) : (s.take (dg s)).count c = 0 := by
  obtain ⟨e, a, _⟩ := dg_take h
  rw [e, List.count_append, cnt_dig a hc]
  have : (s.take (sgn s)).count c = 0 := by
    unfold sgn
    split
    · rename_i z
      rw [z]
      rcases hc with rfl | rfl <;> rfl
    · rfl
  omega
theorem word_cnt {w : Str} (h : w ∈ W5) {c : Nat} (hc : c = 40 ∨ c = 41) : (sg w).count c = 0 := by
  have : ∀ w ∈ W5, (sg w).count 40 = 0 ∧ (sg w).count 41 = 0 := by decide +kernel
  rcases hc with rfl | rfl
  · exact (this w h).1
  · exact (this w h).2
/-- what a reader leaves is a rest of the text, a shorter one, and as well closed -/
def Lv (n : Nat) (s r : List Nat) : Prop := r <:+ s ∧ r.length < s.length ∧ (B n s → B n r)
theorem lp_lv {f : List Nat → Option (PyData × List Nat)} {n : Nat} (hf : ∀ s d r, f s = some (d, r) → Lv n s r) : ∀ (m : Nat) (ps qs : List PyData) (s r : List Nat), lp f m ps s = some (qs, r) → r <:+ s ∧ r.length < s.length ∧ (B n s → B (n + 1) r)
  | 0, _, _, _, _, h => by rw [lp] at h; cases h
  | m + 1, ps, qs, s, r, h => by
    rw [lp] at h
    split at h
    · rename_i hc
      cases h
      cases s with
      | nil => cases hc
      | cons c s =>
        have : c = 41 := by simpa using hc
        subst this
        refine ⟨⟨[41], rfl⟩, by rw [List.length_cons]; exact Nat.lt_succ_self _, fun b => ?_⟩
        exact B.behind (p := [41]) b (by show 1 + n ≤ 0 + (n + 1); omega)
    · split at h
      · cases h
      · rename_i hc
        split at h
        · cases h
        · rename_i d r1 hfe
          obtain ⟨a1, a2, a3⟩ := hf _ _ _ hfe
          obtain ⟨b1, b2, b3⟩ := lp_lv hf m _ qs r1 r h
          by_cases e : ps = []
          · rw [if_pos e] at a1 a2 a3
            exact ⟨b1.trans a1, by omega, fun b => b3 (a3 b)⟩
          · rw [if_neg e] at a1 a2 a3
            have t2 : s.take 2 = [44, 32] := Classical.byContradiction fun z => hc ⟨e, z⟩
            have e0 : s = [44, 32] ++ s.drop 2 := by rw [← t2]; exact (List.take_append_drop 2 s).symm
            refine ⟨b1.trans (a1.trans (List.drop_suffix 2 s)), ?_, fun b => b3 (a3 ?_)⟩
            · have := congrArg List.length e0
              rw [List.length_append] at this
              omega
            · rw [e0] at b
              exact B.behind b (by show 0 + n ≤ 0 + n; omega)
theorem lr_lv : ∀ (n : Nat) (s : List Nat) (d : PyData) (r : List Nat), lr n s = some (d, r) → r <:+ s ∧ r.length < s.length ∧ ∀ k, n = k + 1 → (B k s → B k r)
  | 0, s, d, r, h => by rw [lr] at h; cases h
  | n + 1, s, d, r, h => by
    rw [lr] at h
    split at h
    · rename_i hd
      split at h
      · cases h
        refine ⟨List.drop_suffix _ _, by rw [List.length_drop]; have := dg_le s; omega, fun k _ b => ?_⟩
        have e0 : s = s.take (dg s) ++ s.drop (dg s) := (List.take_append_drop _ _).symm
        rw [e0] at b
        exact B.behind b (by rw [cnt_num hd (.inl rfl), cnt_num hd (.inr rfl)]; omega)
      · cases h
    · split at h
      · cases h
      · rename_i a s1 hp
        obtain ⟨p, e1, e2, e3⟩ := par1_some hp
        rw [List.nil_append] at e1
        subst e1
        split at h
        · rename_i hw
          have c0 := word_cnt hw (.inl rfl)
          have c1 := word_cnt hw (.inr rfl)
          have suf : s1 <:+ s := ⟨a ++ [40], by rw [e2]; simp⟩
          have len : s1.length < s.length := by rw [e2, List.length_append, List.length_cons]; omega
          split at h
          · split at h
            · cases h
            · rename_i nm r1 hq
              cases h
              obtain ⟨p, f1, f2, f3⟩ := par1_some hq
              refine ⟨List.IsSuffix.trans ⟨p ++ [41], by rw [f2]; simp⟩ suf, by rw [e2, f2]; simp only [List.length_append, List.length_cons]; omega, fun k _ b => ?_⟩
              have e4 : s = (a ++ [40] ++ p ++ [41]) ++ r := by rw [e2, f2]; simp
              rw [e4] at b
              refine B.behind b ?_
              have d1 : p.count 41 = 0 := List.count_eq_zero.mpr f3
              have g0 : a.count 40 = 0 := c0
              have g1 : a.count 41 = 0 := c1
              simp only [List.count_append, g0, g1, d1]
              show 0 + 0 + 0 + 1 + k ≤ 0 + 1 + p.count 40 + 0 + k
              omega
          · have key : ∀ ps r1, lp (lr n) (s1.length + 1) [] s1 = some (ps, r1) → r1 <:+ s ∧ r1.length < s.length ∧ ∀ k, n + 1 = k + 1 → (B k s → B k r1) := fun ps r1 hl => by
              cases n with
              | zero =>
                have no : ∀ s d r, lr 0 s = some (d, r) → Lv 0 s r := fun s d r z => by rw [lr] at z; cases z
                obtain ⟨b1, b2, b3⟩ := lp_lv no _ _ _ _ _ hl
                refine ⟨b1.trans suf, by omega, fun k ek b => ?_⟩
                obtain rfl : k = 0 := by omega
                exfalso
                have := b (a ++ [40]) s1 (by rw [e2]; simp)
                rw [List.count_append, List.count_append] at this
                have g1 : a.count 41 = 0 := c1
                rw [g1] at this
                have z1 : ([40] : List Nat).count 40 = 1 := rfl
                have z2 : ([40] : List Nat).count 41 = 0 := rfl
                omega
              | succ n =>
                obtain ⟨b1, b2, b3⟩ := lp_lv (n := n) (fun s d r z => ⟨(lr_lv (n + 1) s d r z).1, (lr_lv (n + 1) s d r z).2.1, (lr_lv (n + 1) s d r z).2.2 n rfl⟩) _ _ _ _ _ hl
                refine ⟨b1.trans suf, by omega, fun k ek b => ?_⟩
                obtain rfl : k = n + 1 := by omega
                refine b3 ?_
                have e4 : s = (a ++ [40]) ++ s1 := by rw [e2]; simp
                rw [e4] at b
                refine B.behind b ?_
                have g0 : a.count 40 = 0 := c0
                have g1 : a.count 41 = 0 := c1
                simp only [List.count_append, g0, g1]
                show 0 + 0 + (n + 1) ≤ 0 + 1 + n
                omega
            cases hl : lp (lr n) (s1.length + 1) [] s1 with
            | none => rw [hl] at h; cases h
            | some q =>
              obtain ⟨ps, r1⟩ := q
              rw [hl] at h
              have : r = r1 := by
                unfold fin27 at h
                dsimp only at h
                split at h
                · cases h; rfl
                · split at h
                  · split at h
                    · cases h; rfl
                    · cases h
                  · cases h
              subst this
              exact key ps r hl
        · cases h
end Tx
namespace Tx
open PySem Mi Pl
def encR (t : List Nat) : Option (PyData × List Nat) → PyData
  | none => .none
  | some (d, r) => .tuple [d, .int (pos t r)]
def encP (t : List Nat) : Option (List PyData × List Nat) → PyData
  | none => .none
  | some (ps, r) => .tuple [.list ps, .int (pos t r)]
theorem φ26 : ΦT ds 33 = some f33 := rfl
theorem φ27 : ΦT ds 34 = some f34 := rfl
theorem φ28 : ΦT ds 35 = some f35 := rfl
def body26 : List Ts := [.iff (.cmp .NotEq (.peek 2) (.ofL (.disp []))) [.iff (.cmp .NotEq (.sliceB (.var 0) (.var 1) (.bin .Add (.var 1) (.cst (.int 2)))) (.cst (.str ", "))) [.ret (.cst .none)] [], .asg (.n 1) (.bin .Add (.var 1) (.cst (.int 2)))] [], .asg (.n 3) (.call 34 [.var 0, .var 1]), .iff (.cmp .Is (.var 3) (.cst .none)) [.ret (.cst .none)] [], .app 2 (.ix (.var 3) (.cst (.int 0))), .asg (.n 1) (.ix (.var 3) (.cst (.int 1)))]
theorem eq_nilL {xs : List PyData} : cmpD .NotEq (.list xs) (.list []) = some (!xs.isEmpty) := rfl
section
variable {h : Sh} {t : List Nat}
theorem sl_s {K : Nat} {s : List Nat} {E : En} {k : Nat} (ht : t.length ≤ 35000) (hs : s <:+ t) (e0 : E[0]? = some (.v (.d (.str (sx t))))) (e1 : E[1]? = some (.v (.d (.int (pos t s))))) :
    Ev K (.sliceB (.var 0) (.var 1) (.bin .Add (.var 1) (.cst (.int k)))) E h = .ok (.d (.str (sx (s.take k)))) h := by
  have zz := SZ_eq
  have b := sl_btw (l := t) (i := pos t s) (j := pos t s + k) (by omega)
  rw [Nat.add_sub_cancel_left, drop_pos hs] at b
  exact e_slB' (e_var e0) (e_var e1) (e_bin (e_var e1) rfl rfl) b
/-- the part of a turn that reads -/
theorem read26 {K n : Nat} {s' : List Nat} {ps : List PyData} {s3 : Sl} (ht : t.length ≤ 35000) (hl : ps.length ≤ 100000) (hx : Cl K 34 [.d (.str (sx t)), .d (.int (pos t s'))] h = .ok (.d (encR t (lr n s'))) h) :
    evSs (Cf K) (GT gs) 50000 (body26.drop 1) [.v (.d (.str (sx t))), .v (.d (.int (pos t s'))), .own ps, s3] h = (match lr n s' with
      | none => .ok (.rt (.d .none)) h
      | some (d, r) => .ok (.nx [.v (.d (.str (sx t))), .v (.d (.int (pos t r))), .own (ps ++ [d]), .v (.d (encR t (some (d, r))))]) h) := by
  have zz := SZ_eq
  refine (s_asg ((e_call rfl).trans hx) rfl).trans ?_
  cases q : lr n s' with
  | none => exact s_ifT (h1 := h) (t_cmp (x := .none) (y := .none) rfl rfl rfl) (s_ret rfl)
  | some p =>
    obtain ⟨d, r⟩ := p
    refine (s_ifF (h1 := h) (t_cmp (x := encR t (some (d, r))) (y := .none) rfl rfl rfl)).trans ?_
    refine (s_app (xs := ps) rfl (e_ix (x := encR t (some (d, r))) rfl rfl ix_0) (by omega)).trans ?_
    exact (s_asg (e_ix (x := encR t (some (d, r))) rfl rfl ix_1) rfl).trans ss_nil
/-- how the loop ends -/
def E26 (h : Sh) (t : List Nat) (K W : Nat) (env : En) : Option (List PyData × List Nat) → Prop
  | none => whLoop (fun e g => tru (Ev K (.cmp .NotEq (.sliceB (.var 0) (.var 1) (.bin .Add (.var 1) (.cst (.int 1)))) (.cst (.str ")"))) e g)) (evSs (Cf K) (GT gs) 50000 body26) W env h = .ok (.rt (.d .none)) h
  | some (qs, r) => ∃ (a : Nat) (t3 : Sl), a + 1 = pos t r ∧ whLoop (fun e g => tru (Ev K (.cmp .NotEq (.sliceB (.var 0) (.var 1) (.bin .Add (.var 1) (.cst (.int 1)))) (.cst (.str ")"))) e g)) (evSs (Cf K) (GT gs) 50000 body26) W env h = .ok (.nx [.v (.d (.str (sx t))), .v (.d (.int a)), .own qs, t3]) h
theorem loop26 {K n : Nat} (ht : t.length ≤ 35000) (hx : ∀ s, s <:+ t → B n s → Cl K 34 [.d (.str (sx t)), .d (.int (pos t s))] h = .ok (.d (encR t (lr (n + 1) s))) h) : ∀ (m : Nat) (s : List Nat) (ps : List PyData) (W : Nat) (s3 : Sl), s.length < m → s.length < W → s <:+ t → B n s → ps.length + s.length ≤ 50000 →
    E26 h t K W [.v (.d (.str (sx t))), .v (.d (.int (pos t s))), .own ps, s3] (lp (lr (n + 1)) m ps s)
  | 0, s, ps, W, s3, hm, _, _, _, _ => absurd hm (Nat.not_lt_zero _)
  | m + 1, s, ps, W, s3, hm, hW, hs, hB, hl => by
    obtain ⟨W, rfl⟩ : ∃ W', W = W' + 1 := ⟨W - 1, by omega⟩
    have sl := suf_len hs
    have test : tru (Ev K (.cmp .NotEq (.sliceB (.var 0) (.var 1) (.bin .Add (.var 1) (.cst (.int 1)))) (.cst (.str ")"))) [.v (.d (.str (sx t))), .v (.d (.int (pos t s))), .own ps, s3] h) = .ok (!decide (s.take 1 = [41])) h := t_cmp (sl_s (k := 1) ht hs rfl rfl) (ecs c_cl) (cmp_ne.trans (by rw [eq_sx]; rfl))
    by_cases c1 : s.take 1 = [41]
    · rw [lp_hit c1]
      have l1 : 1 ≤ s.length := by
        cases s with
        | nil => cases c1
        | cons _ _ => rw [List.length_cons]; omega
      exact ⟨pos t s, s3, (pos_drop hs 1 l1).symm, wh_stop (test.trans (by rw [decide_eq_true c1]; rfl))⟩
    · have tt := test.trans (show _ = R.ok true h by rw [decide_eq_false c1]; rfl)
      have go : ∀ s' : List Nat, s' <:+ t → B n s' → s'.length ≤ s.length → (∀ r, evSs (Cf K) (GT gs) 50000 (body26.drop 1) [.v (.d (.str (sx t))), .v (.d (.int (pos t s'))), .own ps, s3] h = r → evSs (Cf K) (GT gs) 50000 body26 [.v (.d (.str (sx t))), .v (.d (.int (pos t s))), .own ps, s3] h = r) →
          E26 h t K (W + 1) [.v (.d (.str (sx t))), .v (.d (.int (pos t s))), .own ps, s3] (nxp (lr (n + 1)) m ps (lr (n + 1) s')) := fun s' hs' hB' le pre => by
        have rd := pre _ (read26 (s3 := s3) ht (by omega) (hx s' hs' hB'))
        cases q : lr (n + 1) s' with
        | none =>
          rw [q] at rd
          exact wh_ret tt rd
        | some p =>
          obtain ⟨d, r⟩ := p
          rw [q] at rd
          obtain ⟨v1, v2, v3⟩ := lr_lv (n + 1) s' d r q
          have ih := loop26 ht hx m r (ps ++ [d]) W (.v (.d (encR t (some (d, r))))) (by omega) (by omega) (v1.trans hs') (v3 n rfl hB') (by rw [List.length_append, List.length_singleton]; omega)
          show E26 h t K (W + 1) _ (lp (lr (n + 1)) m (ps ++ [d]) r)
          cases q2 : lp (lr (n + 1)) m (ps ++ [d]) r with
          | none =>
            rw [q2] at ih
            exact wh_next tt rd ih
          | some p2 =>
            obtain ⟨qs, r2⟩ := p2
            rw [q2] at ih
            obtain ⟨a, t3, e1, e2⟩ := ih
            exact ⟨a, t3, e1, wh_next tt rd e2⟩
      have tp : tru (Ev K (.cmp .NotEq (.peek 2) (.ofL (.disp []))) [.v (.d (.str (sx t))), .v (.d (.int (pos t s))), .own ps, s3] h) = .ok (!ps.isEmpty) h := t_cmp (e_peek (i := 2) rfl) (e_disp es_nil rfl (Nat.zero_le _)) eq_nilL
      have t2 : tru (Ev K (.cmp .NotEq (.sliceB (.var 0) (.var 1) (.bin .Add (.var 1) (.cst (.int 2)))) (.cst (.str ", "))) [.v (.d (.str (sx t))), .v (.d (.int (pos t s))), .own ps, s3] h) = .ok (!decide (s.take 2 = [44, 32])) h := t_cmp (sl_s (k := 2) ht hs rfl rfl) (ecs c_cm) (cmp_ne.trans (by rw [eq_sx]; rfl))
      by_cases c2 : ps = []
      · subst c2
        rw [lp_one c1]
        exact go s hs hB (Nat.le_refl _) fun r hr => (s_ifF tp).trans hr
      · have ne : ps.isEmpty = false := by cases ps with | nil => exact absurd rfl c2 | cons _ _ => rfl
        by_cases c3 : s.take 2 = [44, 32]
        · rw [lp_more c1 c2 c3]
          have es : s = [44, 32] ++ s.drop 2 := by rw [← c3]; exact (List.take_append_drop 2 s).symm
          have l2 : 2 ≤ s.length := by
            have := congrArg List.length es
            rw [List.length_append] at this
            have : ([44, 32] : List Nat).length = 2 := rfl
            omega
          refine go (s.drop 2) ((List.drop_suffix 2 s).trans hs) (by rw [es] at hB; exact B.behind hB (by show 0 + n ≤ 0 + n; omega)) (by rw [List.length_drop]; omega) fun r hr => ?_
          refine (s_ifN (h2 := h) (env' := [.v (.d (.str (sx t))), .v (.d (.int (pos t (s.drop 2)))), .own ps, s3]) (tp.trans (by rw [ne]; rfl)) ?_).trans hr
          refine (s_ifF (t2.trans (by rw [decide_eq_true c3]; rfl))).trans ((s_asg (v := .d (.int (pos t (s.drop 2)))) (e_bin rfl rfl ?_) rfl).trans ss_nil)
          rw [pos_drop hs 2 l2]
          rfl
        · rw [lp_bad c1 ⟨c2, c3⟩]
          exact wh_ret tt (s_ifT (tp.trans (by rw [ne]; rfl)) (s_ifT (t2.trans (by rw [decide_eq_false c3]; rfl)) (s_ret rfl)))
theorem p26 {K n : Nat} {s : List Nat} (ht : t.length ≤ 35000) (hs : s <:+ t) (hB : B n s) (hx : ∀ s, s <:+ t → B n s → Cl K 34 [.d (.str (sx t)), .d (.int (pos t s))] h = .ok (.d (encR t (lr (n + 1) s))) h) :
    Cl (K + 1) 33 [.d (.str (sx t)), .d (.int (pos t s))] h = .ok (.d (encP t (lp (lr (n + 1)) (s.length + 1) [] s))) h := by
  have sl := suf_len hs
  rw [Cl, call_at φ26 rfl]
  refine fin_end ((s_own (l_disp es_nil rfl (Nat.zero_le _))).trans ?_)
  have lp' := loop26 ht hx (s.length + 1) s [] 50000 .no (by omega) (by omega) hs hB (by rw [List.length_nil]; omega)
  cases q : lp (lr (n + 1)) (s.length + 1) [] s with
  | none =>
    rw [q] at lp'
    exact s_whileR lp'
  | some p =>
    obtain ⟨qs, r⟩ := p
    rw [q] at lp'
    obtain ⟨a, t3, e1, e2⟩ := lp'
    refine (s_while e2).trans ((s_freeze rfl).trans (s_ret ?_))
    refine e_tup (es_cons rfl (es_cons (x := .d (.int (pos t r))) (e_bin rfl rfl ?_) es_nil)) rfl (Nat.le_of_ble_eq_true rfl)
    rw [← e1]
    rfl
end
end Tx
namespace Tx
open PySem Mi Pl
theorem dgs_take {s : List Nat} (hd : 0 < dg s) : dgs (s.take (dg s)) = dgt s := by
  obtain ⟨e, a, ne⟩ := dg_take hd
  rw [e]
  unfold dgs sgn
  by_cases c : s.take 1 = [45]
  · have z : List.take 1 ([45] ++ dgt s) = [45] := rfl
    rw [if_pos c, c, if_pos z]
    rfl
  · rw [if_neg c, List.take_zero, List.nil_append, if_neg]
    intro z
    cases q : dgt s with
    | nil => exact ne q
    | cons x r =>
      rw [q] at z a
      have : x = 45 := by simpa using z
      rw [List.all_cons, this] at a
      cases a
theorem in_W5 {w : Str} : cmpD .NotIn (.str w) (.tuple [.str "seq", .str "par", .str "repeat", .str "copies", .str "use"]) = some (!decide (w ∈ W5)) := by
  show (inD (.str w) (W5.map .str)).map (!·) = _
  rw [in_str]
  rfl
section
variable {h : Sh} {t : List Nat}
/-- the tail of _law_read, behind an open bracket -/
def tail27 : List Ts := f34.body.drop 7
theorem t27 {K : Nat} {w : Str} {o : Option (List PyData × List Nat)} {a b : PyData} (ho : ∀ ps r, o = some (ps, r) → ps.length ≤ 100000) : evSs (Cf K) (GT gs) 50000 (f34.body.drop 7) [.v (.d (.str (sx t))), .v (.d a), .v (.d b), .v (.d (.str w)), .v (.d (encP t o)), .no] h = .ok (.rt (.d (encR t (fin27 w o)))) h := by
  have zz := SZ_eq
  have tG : tru (Ev K (.cmp .In (.var 3) (.tup [.cst (.str "seq"), .cst (.str "par")])) [.v (.d (.str (sx t))), .v (.d a), .v (.d b), .v (.d (.str w)), .v (.d (encP t o)), .no] h) = .ok (decide (isG w)) h := t_cmp rfl (e_tup (es_cons rfl (es_cons rfl es_nil)) rfl (Nat.le_of_ble_eq_true rfl)) in_G2
  cases o with
  | none =>
    have tn : tru (Ev K (.cmp .Is (.var 4) (.cst .none)) [.v (.d (.str (sx t))), .v (.d a), .v (.d b), .v (.d (.str w)), .v (.d (encP t none)), .no] h) = .ok true h := t_cmp (x := .none) (y := .none) rfl rfl rfl
    exact s_ifT (t_orT tn) (s_ret ((e_ite tn).trans ((if_pos rfl).trans rfl)))
  | some p =>
    obtain ⟨ps, r⟩ := p
    have lps := ho ps r rfl
    have tn : tru (Ev K (.cmp .Is (.var 4) (.cst .none)) [.v (.d (.str (sx t))), .v (.d a), .v (.d b), .v (.d (.str w)), .v (.d (encP t (some (ps, r)))), .no] h) = .ok false h := t_cmp (x := encP t (some (ps, r))) (y := .none) rfl rfl rfl
    have i0 : Ev K (.ix (.var 4) (.cst (.int 0))) [.v (.d (.str (sx t))), .v (.d a), .v (.d b), .v (.d (.str w)), .v (.d (encP t (some (ps, r)))), .no] h = .ok (.d (.list ps)) h := e_ix (x := encP t (some (ps, r))) rfl rfl ix_0
    have i1 : Ev K (.ix (.var 4) (.cst (.int 1))) [.v (.d (.str (sx t))), .v (.d a), .v (.d b), .v (.d (.str w)), .v (.d (encP t (some (ps, r)))), .no] h = .ok (.d (.int (pos t r))) h := e_ix (x := encP t (some (ps, r))) rfl rfl ix_1
    unfold fin27
    dsimp only
    by_cases c : isG w
    · rw [if_pos c]
      refine s_ifT ((t_orF tn).trans (t_or1.trans (tG.trans (by rw [decide_eq_true c])))) (s_ret ((e_ite tn).trans ((if_neg Bool.false_ne_true).trans ?_)))
      exact e_tup (es_cons (e_tup (es_cons rfl (es_cons (e_bi (es_cons i0 es_nil) rfl rfl) es_nil)) rfl (Nat.le_of_ble_eq_true rfl)) (es_cons i1 es_nil)) rfl (Nat.le_of_ble_eq_true rfl)
    · rw [if_neg c]
      refine (s_ifF ((t_orF tn).trans (t_or1.trans (tG.trans (by rw [decide_eq_false c]))))).trans ?_
      have l2 : tru (Ev K (.cmp .NotEq (.bi .len [.ix (.var 4) (.cst (.int 0))]) (.cst (.int 2))) [.v (.d (.str (sx t))), .v (.d a), .v (.d b), .v (.d (.str w)), .v (.d (encP t (some (ps, r)))), .no] h) = .ok (!decide (ps.length = 2)) h := by
        refine t_cmp (e_bi (es_cons i0 es_nil) rfl rfl) rfl (cmp_ne.trans ?_)
        rw [eq_int]
        show some (!decide ((ps.length : Int) = 2)) = _
        congr 2
        rw [decide_eq_decide]
        omega
      rcases ps with _ | ⟨x, _ | ⟨y, _ | ⟨z, q⟩⟩⟩
      · exact s_ifT (t_orT l2) (s_ret rfl)
      · exact s_ifT (t_orT l2) (s_ret rfl)
      · have ti := t_isi (t := .int) (e_ix (C := Cf K) (G := GT gs) i0 (show Ev K (.cst (.int 0)) _ h = .ok (.d (.int 0)) h from rfl) (at_0 (x := x) (xs := [y]))) (v := isT .int x) rfl
        dsimp only
        by_cases ci : isT .int x = true
        · rw [if_pos ci]
          refine (s_ifF ((t_orF l2).trans (t_or1.trans (t_nF (ti.trans (by rw [ci])))))).trans (s_ret ?_)
          exact e_tup (es_cons (e_tup (es_cons rfl (es_cons (e_ix i0 rfl (at_0 (x := x) (xs := [y]))) (es_cons (e_ix i0 rfl (at_1 (x := x) (y := y) (xs := []))) es_nil))) rfl (Nat.le_of_ble_eq_true rfl)) (es_cons i1 es_nil)) rfl (Nat.le_of_ble_eq_true rfl)
        · have cf : isT .int x = false := by cases e : isT .int x with | true => exact absurd e ci | false => rfl
          rw [if_neg ci]
          exact s_ifT ((t_orF l2).trans (t_or1.trans (t_nT (ti.trans (by rw [cf]))))) (s_ret rfl)
      · refine s_ifT (t_orT (l2.trans ?_)) (s_ret rfl)
        rw [decide_eq_false (by simp)]; rfl
theorem p27c {K n : Nat} {s : List Nat} (ht : t.length ≤ 35000) (hs : s <:+ t) (hQ : ∀ p s1, s = p ++ 40 :: s1 → sx p ∈ W5 → sx p ≠ ("use" : Str) → Cl (K + 1) 33 [.d (.str (sx t)), .d (.int (pos t s1))] h = .ok (.d (encP t (lp (lr n) (s1.length + 1) [] s1))) h)
    (hL : ∀ s1 ps r, s1.length < s.length → lp (lr n) (s1.length + 1) [] s1 = some (ps, r) → ps.length ≤ 100000) :
    Cl (K + 2) 34 [.d (.str (sx t)), .d (.int (pos t s))] h = .ok (.d (encR t (lr (n + 1) s))) h := by
  have zz := SZ_eq
  have sl := suf_len hs
  have dl := dg_le s
  have dp := drop_pos hs
  rw [Cl, call_at φ27 rfl]
  refine fin_end ((s_asg ((e_call rfl).trans (p25 (k := K) ht hs)) rfl).trans ?_)
  have tg : tru (Ev (K + 1) (.cmp .Gt (.var 2) (.var 1)) [.v (.d (.str (sx t))), .v (.d (.int (pos t s))), .v (.d (.int ((pos t s + dg s : Nat) : Int))), .no, .no, .no] h) = .ok (decide (0 < dg s)) h := by
    refine t_cmp rfl rfl (show some (decide (((pos t s : Nat) : Int) < ((pos t s + dg s : Nat) : Int))) = _ from ?_)
    congr 1
    rw [decide_eq_decide]
    omega
  rw [lr]
  by_cases c : 0 < dg s
  · rw [if_pos c]
    refine s_ifT (tg.trans (by rw [decide_eq_true c])) (s_ret ?_)
    have t99 : tru (Ev (K + 1) (.cmp .Lt (.bin .Sub (.var 2) (.var 1)) (.cst (.int 99))) [.v (.d (.str (sx t))), .v (.d (.int (pos t s))), .v (.d (.int ((pos t s + dg s : Nat) : Int))), .no, .no, .no] h) = .ok (decide (dg s < 99)) h := by
      refine t_cmp (e_bin rfl rfl rfl) rfl (show some (decide ((((pos t s + dg s : Nat) : Int) - ((pos t s : Nat) : Int)) < 99)) = _ from ?_)
      congr 1
      rw [decide_eq_decide]
      omega
    refine (e_ite t99).trans ?_
    by_cases c2 : dg s < 99
    · rw [decide_eq_true c2, if_pos rfl, if_pos c2]
      have b := sl_btw (l := t) (i := pos t s) (j := pos t s + dg s) (by omega)
      rw [Nat.add_sub_cancel_left, dp] at b
      have dt := dg_take c
      have dgst := dgs_take c
      have iv := int_of_sx (l := s.take (dg s)) (by show (dgs (s.take (dg s))).all dig = true; rw [dgst]; exact dt.2.1) (by show dgs (s.take (dg s)) ≠ []; rw [dgst]; exact dt.2.2) (by rw [List.length_take]; omega)
      have r := e_tup (es_cons (e_bi (C := Cf (K + 1)) (G := GT gs) (env := [.v (.d (.str (sx t))), .v (.d (.int (pos t s))), .v (.d (.int ((pos t s + dg s : Nat) : Int))), .no, .no, .no]) (h := h) (es_cons (e_slB' (a := .var 0) (lo := .var 1) (hi := .var 2) rfl rfl rfl b) es_nil) rfl iv) (es_cons (e := .var 2) (x := .d (.int ((pos t s + dg s : Nat) : Int))) rfl es_nil)) rfl (Nat.le_of_ble_eq_true rfl)
      rw [← pos_drop hs (dg s) dl] at r ⊢
      exact r
    · rw [decide_eq_false c2, if_neg Bool.false_ne_true, if_neg c2]
      rfl
  · rw [if_neg c]
    refine (s_ifF (tg.trans (by rw [decide_eq_false c]))).trans ?_
    have b := sl_from (l := t) (k := pos t s) (by omega)
    rw [dp] at b
    have pe := part_sx (s := [40]) (l := s) (by simp) (by omega)
    generalize hv2 : (Vl.d (.int ((pos t s + dg s : Nat) : Int))) = v2
    have pr : ∀ z, (match TL.par [40] [] s with
      | some (a, b) => PyData.tuple [.str (sx a), .str (sx [40]), .str (sx b)]
      | none => .tuple [.str (sx s), .str (sx []), .str (sx [])]) = z → Ev (K + 1) (.me .partition (.sliceF (.var 0) (.var 1)) [.cst (.str "(")]) [.v (.d (.str (sx t))), .v (.d (.int (pos t s))), .v v2, .no, .no, .no] h = .ok (.d z) h := fun z hz =>
      e_me (e_slF' rfl rfl b) (es_cons (ecs c_op) es_nil) rfl (pe.trans (congrArg some hz))
    cases hp : TL.par [40] [] s with
    | none =>
      have e0 := pr (.tuple [.str (sx s), .str (sx []), .str (sx [])]) (by rw [hp])
      refine (s_asg (e_ix e0 rfl ix_0) rfl).trans ?_
      have lenv : ∀ E : En, E[3]? = some (.v (.d (.str (sx s)))) → Ev (K + 1) (.bi .len [.var 3]) E h = .ok (.d (.int s.length)) h := fun E hE => e_bi (es_cons (e_var hE) es_nil) rfl (len_sx (by omega))
      have sl2 := sl_btw (l := t) (i := pos t s + s.length) (j := pos t s + s.length + 1) (by omega)
      rw [List.drop_eq_nil_of_le (show t.length ≤ pos t s + s.length by unfold pos; omega), List.take_nil] at sl2
      have t2 : tru (Ev (K + 1) (.cmp .NotEq (.sliceB (.var 0) (.bin .Add (.var 1) (.bi .len [.var 3])) (.bin .Add (.bin .Add (.var 1) (.bi .len [.var 3])) (.cst (.int 1)))) (.cst (.str "("))) [.v (.d (.str (sx t))), .v (.d (.int (pos t s))), .v v2, .v (.d (.str (sx s))), .no, .no] h) = .ok true h :=
        t_cmp (e_slB' rfl (e_bin rfl (lenv _ rfl) rfl) (e_bin (e_bin rfl (lenv _ rfl) rfl) rfl rfl) sl2) (ecs c_op) (cmp_ne.trans (by rw [eq_sx]; rfl))
      have t1 : tru (Ev (K + 1) (.cmp .NotIn (.var 3) (.tup [.cst (.str "seq"), .cst (.str "par"), .cst (.str "repeat"), .cst (.str "copies"), .cst (.str "use")])) [.v (.d (.str (sx t))), .v (.d (.int (pos t s))), .v v2, .v (.d (.str (sx s))), .no, .no] h) = .ok (!decide (sx s ∈ W5)) h := t_cmp rfl (e_tup (es_cons rfl (es_cons rfl (es_cons rfl (es_cons rfl (es_cons rfl es_nil))))) rfl (Nat.le_of_ble_eq_true rfl)) in_W5
      exact s_ifT ((t_or t1 fun _ => t_or1.trans t2).trans (by rw [Bool.or_true])) (s_ret rfl)
    | some q =>
      obtain ⟨p, s1⟩ := q
      obtain ⟨p', e1, es, e3⟩ := par1_some hp
      rw [List.nil_append] at e1
      subst e1
      have e0 := pr (.tuple [.str (sx p), .str (sx [40]), .str (sx s1)]) (by rw [hp])
      refine (s_asg (e_ix e0 rfl ix_0) rfl).trans ?_
      have ls : s.length = p.length + 1 + s1.length := by rw [es, List.length_append, List.length_cons]; omega
      have lenv : ∀ E : En, E[3]? = some (.v (.d (.str (sx p)))) → Ev (K + 1) (.bi .len [.var 3]) E h = .ok (.d (.int p.length)) h := fun E hE => e_bi (es_cons (e_var hE) es_nil) rfl (len_sx (by omega))
      have sl2 := sl_btw (l := t) (i := pos t s + p.length) (j := pos t s + p.length + 1) (by omega)
      have dp2 : t.drop (pos t s + p.length) = 40 :: s1 := by rw [← List.drop_drop, dp, es, List.drop_left]
      rw [dp2, Nat.add_sub_cancel_left] at sl2
      have t2 : tru (Ev (K + 1) (.cmp .NotEq (.sliceB (.var 0) (.bin .Add (.var 1) (.bi .len [.var 3])) (.bin .Add (.bin .Add (.var 1) (.bi .len [.var 3])) (.cst (.int 1)))) (.cst (.str "("))) [.v (.d (.str (sx t))), .v (.d (.int (pos t s))), .v v2, .v (.d (.str (sx p))), .no, .no] h) = .ok false h :=
        t_cmp (e_slB' rfl (e_bin rfl (lenv _ rfl) rfl) (e_bin (e_bin rfl (lenv _ rfl) rfl) rfl rfl) sl2) (ecs c_op) (cmp_ne.trans (by rw [eq_sx]; rfl))
      have t1 : tru (Ev (K + 1) (.cmp .NotIn (.var 3) (.tup [.cst (.str "seq"), .cst (.str "par"), .cst (.str "repeat"), .cst (.str "copies"), .cst (.str "use")])) [.v (.d (.str (sx t))), .v (.d (.int (pos t s))), .v v2, .v (.d (.str (sx p))), .no, .no] h) = .ok (!decide (sx p ∈ W5)) h := t_cmp rfl (e_tup (es_cons rfl (es_cons rfl (es_cons rfl (es_cons rfl (es_cons rfl es_nil))))) rfl (Nat.le_of_ble_eq_true rfl)) in_W5
      dsimp only
      by_cases c5 : sx p ∈ W5
      · rw [if_pos c5]
        refine (s_ifF ((t_orF (t1.trans (by rw [decide_eq_true c5]; rfl))).trans (t_or1.trans t2))).trans ?_
        have suf : s1 <:+ t := List.IsSuffix.trans ⟨p ++ [40], by rw [es]; simp⟩ hs
        have ps1 : pos t s + p.length + 1 = pos t s1 := by unfold pos; omega
        have s1l := suf_len suf
        refine (s_asg (v := .d (.int (pos t s1))) (e_bin (e_bin rfl (lenv _ rfl) rfl) rfl (by rw [← ps1]; rfl)) rfl).trans ?_
        have tu : tru (Ev (K + 1) (.cmp .Eq (.var 3) (.cst (.str "use"))) [.v (.d (.str (sx t))), .v (.d (.int (pos t s1))), .v v2, .v (.d (.str (sx p))), .no, .no] h) = .ok (decide (sx p = ("use" : Str))) h := t_cmp rfl rfl (cmp_eq.trans eq_str)
        by_cases cu : sx p = ("use" : Str)
        · rw [if_pos cu]
          refine s_ifT (tu.trans (by rw [decide_eq_true cu])) ?_
          have b1 := sl_from (l := t) (k := pos t s1) (by omega)
          rw [drop_pos suf] at b1
          have pe1 := part_sx (s := [41]) (l := s1) (by simp) (by omega)
          cases hp1 : TL.par [41] [] s1 with
          | none =>
            rw [hp1] at pe1
            refine (s_asg (e_ix (e_me (m := .partition) (e_slF' rfl rfl b1) (es_cons (ecs c_cl) es_nil) rfl pe1) rfl ix_0) rfl).trans (s_ret ?_)
            have lenv5 : ∀ E : En, E[5]? = some (.v (.d (.str (sx s1)))) → Ev (K + 1) (.bi .len [.var 5]) E h = .ok (.d (.int s1.length)) h := fun E hE => e_bi (es_cons (e_var hE) es_nil) rfl (len_sx (by omega))
            have sl3 := sl_btw (l := t) (i := pos t s1 + s1.length) (j := pos t s1 + s1.length + 1) (by omega)
            rw [List.drop_eq_nil_of_le (show t.length ≤ pos t s1 + s1.length by unfold pos; omega), List.take_nil] at sl3
            exact (e_ite (t_cmp (e_slB' rfl (e_bin rfl (lenv5 _ rfl) rfl) (e_bin (e_bin rfl (lenv5 _ rfl) rfl) rfl rfl) sl3) (ecs c_cl) (cmp_eq.trans eq_sx))).trans rfl
          | some q =>
            obtain ⟨nm, r⟩ := q
            obtain ⟨nm', f1, f2, f3⟩ := par1_some hp1
            rw [List.nil_append] at f1
            subst f1
            rw [hp1] at pe1
            have ls1 : s1.length = nm.length + 1 + r.length := by rw [f2, List.length_append, List.length_cons]; omega
            refine (s_asg (e_ix (e_me (m := .partition) (e_slF' rfl rfl b1) (es_cons (ecs c_cl) es_nil) rfl pe1) rfl ix_0) rfl).trans (s_ret ?_)
            have lenv5 : ∀ E : En, E[5]? = some (.v (.d (.str (sx nm)))) → Ev (K + 1) (.bi .len [.var 5]) E h = .ok (.d (.int nm.length)) h := fun E hE => e_bi (es_cons (e_var hE) es_nil) rfl (len_sx (by omega))
            have sl3 := sl_btw (l := t) (i := pos t s1 + nm.length) (j := pos t s1 + nm.length + 1) (by omega)
            have dp3 : t.drop (pos t s1 + nm.length) = 41 :: r := by rw [← List.drop_drop, drop_pos suf, f2, List.drop_left]
            rw [dp3, Nat.add_sub_cancel_left] at sl3
            refine (e_ite (t_cmp (e_slB' rfl (e_bin rfl (lenv5 _ rfl) rfl) (e_bin (e_bin rfl (lenv5 _ rfl) rfl) rfl rfl) sl3) (ecs c_cl) (cmp_eq.trans eq_sx))).trans ?_
            have pr1 : pos t s1 + nm.length + 1 = pos t r := by unfold pos; omega
            refine (if_pos (show decide (([41] : List Nat) = [41]) = true from rfl)).trans ?_
            refine e_tup (es_cons (e_tup (es_cons rfl (es_cons rfl es_nil)) rfl (Nat.le_of_ble_eq_true rfl)) (es_cons (x := .d (.int (pos t r))) (e_bin (e_bin rfl (lenv5 _ rfl) rfl) rfl ?_) es_nil)) rfl (Nat.le_of_ble_eq_true rfl)
            rw [← pr1]; rfl
        · rw [if_neg cu]
          refine (s_ifF (tu.trans (by rw [decide_eq_false cu]))).trans ?_
          refine (s_asg ((e_call rfl).trans (hQ p s1 es c5 cu)) rfl).trans ?_
          subst hv2
          exact t27 fun ps r e => hL s1 ps r (by omega) e
      · rw [if_neg c5]
        exact s_ifT (t_orT (t1.trans (by rw [decide_eq_false c5]; rfl))) (s_ret rfl)
end
end Tx
namespace Tx
open PySem Mi Pl
theorem lp_len {f : List Nat → Option (PyData × List Nat)} : ∀ (m : Nat) (ps qs : List PyData) (s r : List Nat), lp f m ps s = some (qs, r) → qs.length ≤ ps.length + m
  | 0, _, _, _, _, h => by rw [lp] at h; cases h
  | m + 1, ps, qs, s, r, h => by
    by_cases c : s.take 1 = [41]
    · rw [lp_hit c] at h
      cases h
      omega
    · have key : ∀ o, nxp f m ps o = some (qs, r) → qs.length ≤ ps.length + (m + 1) := fun o e => by
        cases o with
        | none => cases e
        | some p =>
          have := lp_len m (ps ++ [p.1]) qs p.2 r e
          rw [List.length_append, List.length_singleton] at this
          omega
      by_cases c2 : ps = []
      · subst c2
        rw [lp_one c] at h
        exact key _ h
      · by_cases c3 : s.take 2 = [44, 32]
        · rw [lp_more c c2 c3] at h
          exact key _ h
        · rw [lp_bad c ⟨c2, c3⟩] at h
          cases h
theorem B_word {n : Nat} {p s1 : List Nat} (b : B (n + 1) (p ++ 40 :: s1)) (hw : sx p ∈ W5) : B n s1 := by
  have g0 : p.count 40 = 0 := word_cnt hw (.inl rfl)
  have g1 : p.count 41 = 0 := word_cnt hw (.inr rfl)
  have e : p ++ 40 :: s1 = (p ++ [40]) ++ s1 := by simp
  rw [e] at b
  refine B.behind b ?_
  rw [List.count_append, List.count_append, g0, g1]
  show 0 + 0 + (n + 1) ≤ 0 + 1 + n
  omega
theorem B_no {p s1 : List Nat} (b : B 0 (p ++ 40 :: s1)) (hw : sx p ∈ W5) : False := by
  have g1 : p.count 41 = 0 := word_cnt hw (.inr rfl)
  have := b (p ++ [40]) s1 (by simp)
  rw [List.count_append, List.count_append, g1] at this
  have z1 : ([40] : List Nat).count 40 = 1 := rfl
  have z2 : ([40] : List Nat).count 41 = 0 := rfl
  omega
section
variable {h : Sh}
theorem p27 {t : List Nat} (ht : t.length ≤ 35000) : ∀ (n : Nat) (s : List Nat) (k : Nat), s <:+ t → B n s → Cl (k + 2 * n + 2) 34 [.d (.str (sx t)), .d (.int (pos t s))] h = .ok (.d (encR t (lr (n + 1) s))) h
  | 0, s, k, hs, hB => p27c (K := k) ht hs (fun p s1 e hw _ => by rw [e] at hB; exact (B_no hB hw).elim) fun s1 ps r l e => by
      have := lp_len _ _ _ _ _ e
      have := suf_len hs
      rw [List.length_nil] at *
      omega
  | n + 1, s, k, hs, hB => by
    refine p27c (K := k + 2 * n + 2) ht hs (fun p s1 e hw _ => ?_) fun s1 ps r l e => ?_
    · rw [e] at hB
      have suf : s1 <:+ t := List.IsSuffix.trans ⟨p ++ [40], by rw [e]; simp⟩ hs
      exact p26 ht suf (B_word hB hw) fun s' hs' hB' => p27 ht n s' k hs' hB'
    · have := lp_len _ _ _ _ _ e
      have := suf_len hs
      rw [List.length_nil] at *
      omega
def lps (t : List Nat) : PyData := match lr 101 t with
  | some (d, r) => if r = [] then d else .none
  | none => .none
theorem p28 {t : List Nat} {k : Nat} (ht : t.length ≤ 35000) (hB : B 100 t) : Cl (k + 203) 35 [.d (.str (sx t))] h = .ok (.d (lps t)) h := by
  have zz := SZ_eq
  have q := p27 (h := h) ht 100 t k (List.suffix_refl t) hB
  have e0 : pos t t = 0 := Nat.sub_self _
  rw [e0] at q
  rw [Cl, call_at φ28 rfl]
  refine fin_end ((s_asg ((e_call rfl).trans q) rfl).trans (s_ret ?_))
  unfold lps
  cases hr : lr 101 t with
  | none =>
    have tn : tru (Ev (k + 202) (.cmp .IsNot (.var 1) (.cst .none)) [.v (.d (.str (sx t))), .v (.d (encR t none))] h) = .ok false h := t_cmp (x := .none) (y := .none) rfl rfl rfl
    exact (e_ite (t_andF tn)).trans ((if_neg Bool.false_ne_true).trans rfl)
  | some p =>
    obtain ⟨d, r⟩ := p
    have suf := (lr_lv 101 t d r hr).1
    have lr' := suf_len suf
    have tn : tru (Ev (k + 202) (.cmp .IsNot (.var 1) (.cst .none)) [.v (.d (.str (sx t))), .v (.d (encR t (some (d, r))))] h) = .ok true h := t_cmp (x := encR t (some (d, r))) (y := .none) rfl rfl rfl
    have tl : tru (Ev (k + 202) (.cmp .Eq (.ix (.var 1) (.cst (.int 1))) (.bi .len [.var 0])) [.v (.d (.str (sx t))), .v (.d (encR t (some (d, r))))] h) = .ok (decide (r = [])) h := by
      refine t_cmp (e_ix (x := encR t (some (d, r))) rfl rfl ix_1) (e_bi (es_cons rfl es_nil) rfl (len_sx (by omega))) (cmp_eq.trans (eq_int.trans ?_))
      congr 1
      rw [decide_eq_decide]
      unfold pos
      constructor
      · intro z
        exact List.length_eq_zero_iff.mp (by omega)
      · intro z
        rw [z, List.length_nil]; omega
    refine (e_ite ((t_andT tn).trans (t_and1.trans tl))).trans ?_
    dsimp only
    by_cases c : r = []
    · rw [decide_eq_true c, if_pos rfl, if_pos c]
      exact e_ix (x := encR t (some (d, r))) rfl rfl ix_0
    · rw [decide_eq_false c, if_neg Bool.false_ne_true, if_neg c]
      rfl
end
/-! ### the law reads back what was written -/
def nd (r : List Nat) : Prop := ∀ c r', r = c :: r' → dig c = false
theorem tw_num {l r : List Nat} (hl : l.all dig = true) (hr : nd r) : (l ++ r).takeWhile dig = l := by
  induction l with
  | nil =>
    cases r with
    | nil => rfl
    | cons c r' => rw [List.nil_append, List.takeWhile_cons, hr c r' rfl]; rfl
  | cons c l ih =>
    rw [List.all_cons, Bool.and_eq_true] at hl
    rw [List.cons_append, List.takeWhile_cons, hl.1, if_pos rfl, ih hl.2]
theorem numL_no45 (n : Nat) (r : List Nat) : (TL.numL n ++ r).take 1 ≠ [45] := by
  have hd := TL.numL_digits n
  cases e : TL.numL n with
  | nil => exact absurd e (TL.numL_ne n)
  | cons a q =>
    have := hd a (by rw [e]; exact List.mem_cons_self)
    intro z
    have : a = 45 := by simpa using z
    omega
theorem dg_num {i : Int} {r : List Nat} (hr : nd r) : dg (numI i ++ r) = (numI i).length := by
  have hd := dig_all (TL.numL_digits i.natAbs)
  have ne := TL.numL_ne i.natAbs
  by_cases c : i < 0
  · have e : numI i = 45 :: TL.numL i.natAbs := by unfold numI; rw [if_pos c]
    have s1 : sgn (numI i ++ r) = 1 := by unfold sgn; rw [e]; exact if_pos rfl
    have d1 : dgt (numI i ++ r) = TL.numL i.natAbs := by
      unfold dgt
      rw [s1, e]
      exact tw_num hd hr
    unfold dg
    rw [d1, s1, if_neg, e, List.length_cons]
    · omega
    · rintro (z | z)
      · exact ne z
      · exact numL_head i.natAbs (by omega) z.1
  · have e : numI i = TL.numL i.natAbs := by unfold numI; rw [if_neg c]
    have s1 : sgn (numI i ++ r) = 0 := by unfold sgn; rw [e, if_neg (numL_no45 _ _)]
    have d1 : dgt (numI i ++ r) = TL.numL i.natAbs := by
      unfold dgt
      rw [s1, e]
      exact tw_num hd hr
    unfold dg
    rw [d1, s1, if_neg, e]
    · omega
    · rintro (z | z)
      · exact ne z
      · by_cases c0 : i = 0
        · subst c0
          rcases z.2 with z | z
          · exact absurd z (by decide)
          · exact absurd z (by decide)
        · exact numL_head i.natAbs (by omega) z.1
theorem dg_word {w : Str} {s : List Nat} (h : isG w ∨ isM w) : dg (sg w ++ s) = 0 := by
  have key : ∀ w ∈ [("seq" : Str), "par", "repeat", "copies"], ∃ c r, sg w = c :: r ∧ c ≠ 45 ∧ dig c = false := by
    intro w m
    simp only [List.mem_cons, List.not_mem_nil, or_false] at m
    rcases m with rfl | rfl | rfl | rfl
    · exact ⟨115, [101, 113], by decide +kernel, by decide, by decide⟩
    · exact ⟨112, [97, 114], by decide +kernel, by decide, by decide⟩
    · exact ⟨114, [101, 112, 101, 97, 116], by decide +kernel, by decide, by decide⟩
    · exact ⟨99, [111, 112, 105, 101, 115], by decide +kernel, by decide, by decide⟩
  obtain ⟨c, r, e, h1, h2⟩ := key w (by rcases h with (rfl | rfl) | (rfl | rfl) <;> simp)
  have s1 : sgn (sg w ++ s) = 0 := by
    unfold sgn
    rw [e, if_neg]
    intro z
    exact h1 (by simpa using z)
  have d1 : dgt (sg w ++ s) = [] := by
    unfold dgt
    rw [s1, e, List.drop_zero, List.cons_append, List.takeWhile_cons, h2]
    rfl
  unfold dg
  rw [if_pos (.inl d1)]
theorem dg_use {s : List Nat} : dg (sg "use" ++ s) = 0 := by
  have e : sg "use" = [117, 115, 101] := by decide +kernel
  have s1 : sgn (sg "use" ++ s) = 0 := by
    unfold sgn
    rw [e, if_neg]
    intro z
    simp at z
  have d1 : dgt (sg "use" ++ s) = [] := by
    unfold dgt
    rw [s1, e, List.drop_zero, List.cons_append, List.takeWhile_cons, show dig 117 = false by decide]
    rfl
  unfold dg
  rw [if_pos (.inl d1)]
theorem word_W5 {w : Str} (h : isG w ∨ isM w) : w ∈ W5 := by rcases h with (rfl | rfl) | (rfl | rfl) <;> decide +kernel
theorem wl_head (n : Nat) (j : Jb) (r : List Nat) (h : JW n j) : (wl j ++ r).take 1 ≠ [41] := by
  cases n with
  | zero => rw [JW] at h; exact h.elim
  | succ n =>
    have key : ∀ x q, wl j = x :: q → (∀ y ∈ [x], y ≠ 41) → (wl j ++ r).take 1 ≠ [41] := fun x q e hx z => by
      rw [e] at z
      exact hx x (List.mem_singleton.mpr rfl) (by simpa using z)
    cases e : wl j with
    | nil => exact absurd e (wl_ne j)
    | cons x q =>
      rw [← e]
      refine key x q e fun y m => ?_
      rw [List.mem_singleton.mp m]
      cases j with
      | st i =>
        rw [wl] at e
        exact (num_free i x (by rw [e]; exact List.mem_cons_self)).2.2
      | us l =>
        rw [wl] at e
        cases ew : sg "use" with
        | nil => rw [ew] at e; cases e; decide
        | cons a b =>
          rw [ew] at e
          cases e
          exact (us_free x (by rw [ew]; exact List.mem_cons_self)).2.2
      | gr w ps =>
        rw [JW] at h
        rw [wl] at e
        cases ew : sg w with
        | nil => rw [ew] at e; cases e; decide
        | cons a b =>
          rw [ew] at e
          cases e
          exact (w_free (.inl h.1) x (by rw [ew]; exact List.mem_cons_self)).2.2
      | ml w c j =>
        rw [JW] at h
        rw [wl] at e
        cases ew : sg w with
        | nil => rw [ew] at e; cases e; decide
        | cons a b =>
          rw [ew] at e
          cases e
          exact (w_free (.inr h.1) x (by rw [ew]; exact List.mem_cons_self)).2.2
theorem lp_wls {f : List Nat → Option (PyData × List Nat)} {n : Nat} : ∀ (ps : List Jb) (p : Jb) (m : Nat) (acc : List PyData) (r : List Nat), (∀ q ∈ p :: ps, JW n q ∧ ∀ r, nd r → f (wl q ++ r) = some (enc q, r)) → ps.length < m → acc ≠ [] →
    nxp f m acc (f (wl p ++ ((ps.map fun q => 44 :: 32 :: wl q).flatten ++ 41 :: r))) = some (acc ++ encs (p :: ps), r)
  | [], p, m, acc, r, h, hm, ha => by
    obtain ⟨m, rfl⟩ : ∃ m', m = m' + 1 := ⟨m - 1, by omega⟩
    rw [List.map_nil, List.flatten_nil, List.nil_append, (h p List.mem_cons_self).2 _ (fun c r' e => by cases e; decide)]
    show lp f (m + 1) (acc ++ [enc p]) (41 :: r) = _
    rw [lp_hit rfl, encs, encs]
    rfl
  | q :: ps, p, m, acc, r, h, hm, ha => by
    rw [List.length_cons] at hm
    obtain ⟨m, rfl⟩ : ∃ m', m = m' + 1 := ⟨m - 1, by omega⟩
    rw [List.map_cons, List.flatten_cons, List.append_assoc, (h p List.mem_cons_self).2 _ (fun c r' e => by cases e; decide)]
    show lp f (m + 1) (acc ++ [enc p]) (44 :: 32 :: (wl q ++ ((ps.map fun q => 44 :: 32 :: wl q).flatten ++ 41 :: r))) = _
    rw [lp_more (show List.take 1 _ ≠ [41] by simp) (by simp) rfl]
    show nxp f m (acc ++ [enc p]) (f (wl q ++ ((ps.map fun q => 44 :: 32 :: wl q).flatten ++ 41 :: r))) = _
    rw [lp_wls ps q m (acc ++ [enc p]) r (fun z mm => h z (List.mem_cons_of_mem _ mm)) (by omega) (by simp), encs, List.append_assoc]
    rfl
theorem lp_all {f : List Nat → Option (PyData × List Nat)} {n : Nat} (ps : List Jb) (m : Nat) (r : List Nat) (h : ∀ q ∈ ps, JW n q ∧ ∀ r, nd r → f (wl q ++ r) = some (enc q, r)) (hm : ps.length < m) :
    lp f m [] (TL.joinL [44, 32] (wls ps) ++ 41 :: r) = some (encs ps, r) := by
  obtain ⟨m, rfl⟩ : ∃ m', m = m' + 1 := ⟨m - 1, by omega⟩
  cases ps with
  | nil =>
    rw [wls, encs]
    exact lp_hit rfl
  | cons p ps =>
    rw [List.length_cons] at hm
    have e : TL.joinL [44, 32] (wls (p :: ps)) ++ 41 :: r = wl p ++ ((ps.map fun q => 44 :: 32 :: wl q).flatten ++ 41 :: r) := by
      rw [wls, joinL_flat, wls_map, List.map_map, List.append_assoc]
      rfl
    rw [e, lp_one (wl_head n p _ (h p List.mem_cons_self).1)]
    cases ps with
    | nil =>
      obtain ⟨m, rfl⟩ : ∃ m', m = m' + 1 := ⟨m - 1, by omega⟩
      rw [List.map_nil, List.flatten_nil, List.nil_append, (h p List.mem_cons_self).2 _ (fun c r' e => by cases e; decide)]
      show lp f (m + 1) ([] ++ [enc p]) (41 :: r) = _
      rw [lp_hit rfl, encs, encs]
      rfl
    | cons q ps =>
      rw [List.length_cons] at hm
      obtain ⟨m, rfl⟩ : ∃ m', m = m' + 1 := ⟨m - 1, by omega⟩
      rw [List.map_cons, List.flatten_cons, List.append_assoc, (h p List.mem_cons_self).2 _ (fun c r' e => by cases e; decide)]
      show lp f (m + 1) ([] ++ [enc p]) (44 :: 32 :: (wl q ++ ((ps.map fun q => 44 :: 32 :: wl q).flatten ++ 41 :: r))) = _
      rw [lp_more (show List.take 1 _ ≠ [41] by simp) (by simp) rfl]
      show nxp f m ([] ++ [enc p]) (f (wl q ++ ((ps.map fun q => 44 :: 32 :: wl q).flatten ++ 41 :: r))) = _
      rw [lp_wls ps q m ([] ++ [enc p]) r (fun z mm => h z (List.mem_cons_of_mem _ mm)) (by omega) (by simp), encs]
      rfl
theorem joinL_ge (s : List Nat) : ∀ ys : List (List Nat), (∀ y ∈ ys, y ≠ []) → ys.length ≤ (TL.joinL s ys).length
  | [], _ => Nat.zero_le _
  | [y], h => by
    show 1 ≤ y.length
    exact List.length_pos_iff.mpr (h y List.mem_cons_self)
  | y :: z :: r, h => by
    have := joinL_ge s (z :: r) fun q m => h q (List.mem_cons_of_mem _ m)
    have hy := List.length_pos_iff.mpr (h y List.mem_cons_self)
    show _ ≤ (y ++ (s ++ TL.joinL s (z :: r))).length
    rw [List.length_append, List.length_append, List.length_cons]
    omega
theorem lr_wl : ∀ (n : Nat) (j : Jb) (r : List Nat), JW n j → nd r → lr n (wl j ++ r) = some (enc j, r)
  | 0, j, r, h, _ => by rw [JW] at h; exact h.elim
  | n + 1, .st i, r, h, hr => by
    rw [JW] at h
    have l1 := num_len h
    have l0 : 0 < (numI i).length := List.length_pos_iff.mpr (by have := wl_ne (.st i); rw [wl] at this; exact this)
    rw [wl, lr, dg_num hr, if_pos l0, if_pos (by omega), List.take_left, List.drop_left, valI_num, enc]
  | n + 1, .us l, r, h, hr => by
    rw [JW] at h
    have f40 : (40 : Nat) ∉ sg "use" := fun m => (us_free 40 m).2.1 rfl
    have f41 : (41 : Nat) ∉ l := fun m => (nm_free h 41 m).2.2 rfl
    have e : wl (.us l) ++ r = sg "use" ++ ([40] ++ (l ++ ([41] ++ r))) := by rw [wl]; simp
    rw [e, lr, dg_use, if_neg (by decide), TL.par_part1 f40, List.nil_append]
    dsimp only
    rw [sx_sg, if_pos (by decide +kernel), if_pos rfl, TL.par_part1 f41, List.nil_append, enc]
  | n + 1, .gr w ps, r, h, hr => by
    rw [JW] at h
    have f40 : (40 : Nat) ∉ sg w := fun m => (w_free (.inl h.1) 40 m).2.1 rfl
    have e : wl (.gr w ps) ++ r = sg w ++ ([40] ++ (TL.joinL [44, 32] (wls ps) ++ 41 :: r)) := by rw [wl]; simp
    rw [e, lr, dg_word (.inl h.1), if_neg (by decide), TL.par_part1 f40, List.nil_append]
    dsimp only
    rw [sx_sg, if_pos (word_W5 (.inl h.1)), if_neg (not_use (.inl h.1))]
    have jl := joinL_ge [44, 32] (wls ps) (fun y m => by
      rw [wls_map] at m
      obtain ⟨q, _, rfl⟩ := List.mem_map.mp m
      exact wl_ne q)
    rw [lp_all (n := n) ps _ r (fun q m => ⟨h.2.2 q m, fun r hr => lr_wl n q r (h.2.2 q m) hr⟩) ?_]
    · unfold fin27
      dsimp only
      rw [if_pos h.1, enc]
    · rw [List.length_append]
      have : (wls ps).length = ps.length := by rw [wls_map, List.length_map]
      omega
  | n + 1, .ml w c j, r, h, hr => by
    rw [JW] at h
    have f40 : (40 : Nat) ∉ sg w := fun m => (w_free (.inr h.1) 40 m).2.1 rfl
    have ej : TL.joinL [44, 32] (wls [.st c, j]) = numI c ++ (44 :: 32 :: wl j) := by
      rw [wls, wls, wls, wl]
      rfl
    have e : wl (.ml w c j) ++ r = sg w ++ ([40] ++ (TL.joinL [44, 32] (wls [.st c, j]) ++ 41 :: r)) := by rw [ej, wl]; simp
    obtain ⟨n, rfl⟩ : ∃ n', n = n' + 1 := by
      cases n with
      | zero => have := h.2.2; rw [JW] at this; exact this.elim
      | succ n => exact ⟨n, rfl⟩
    have jc : JW (n + 1) (.st c) := by rw [JW]; exact cnt_b h.2.1
    have jl := joinL_ge [44, 32] (wls [.st c, j]) (fun y m => by
      rw [wls_map] at m
      obtain ⟨q, _, rfl⟩ := List.mem_map.mp m
      exact wl_ne q)
    have jl2 : (wls [Jb.st c, j]).length = 2 := by rw [wls_map, List.length_map]; rfl
    rw [e, lr, dg_word (.inr h.1), if_neg (by decide), TL.par_part1 f40, List.nil_append]
    dsimp only
    rw [sx_sg, if_pos (word_W5 (.inr h.1)), if_neg (not_use (.inr h.1))]
    have hall : ∀ q ∈ [Jb.st c, j], JW (n + 1) q ∧ ∀ r, nd r → lr (n + 1) (wl q ++ r) = some (enc q, r) := fun q m => by
      have jq : JW (n + 1) q := by
        rcases List.mem_cons.mp m with rfl | m
        · exact jc
        · rw [List.mem_singleton.mp m]; exact h.2.2
      exact ⟨jq, fun r hr => lr_wl (n + 1) q r jq hr⟩
    rw [lp_all (n := n + 1) [.st c, j] _ r hall (by rw [List.length_append]; show 2 < _; omega)]
    unfold fin27
    rw [encs, encs, encs, enc]
    dsimp only
    rw [if_neg (isM_not h.1), if_pos (show isT Ty.int (PyData.int c) = true from rfl), enc]
theorem lps_wl {j : Jb} (h : JW 13 j) : lps (wl j) = enc j := by
  have q := lr_wl 101 j [] (h.mono (by decide)) (fun c r' e => by cases e)
  rw [List.append_nil] at q
  unfold lps
  rw [q]
  dsimp only
  rw [if_pos rfl]
end Tx
namespace Tx
open PySem Mi Pl
/-! ### the texts in what is read stay within bounds -/
theorem sb_str {x : Str} (h : x.length ≤ SZ) : sb (.str x) = true := by rw [sb]; exact decide_eq_true h
theorem sb_int (i : Int) : sb (.int i) = true := by rw [sb]; all_goals (intros; first | rfl | simp_all)
theorem sb_none : sb .none = true := by rw [sb]; all_goals (intros; first | rfl | simp_all)
theorem sb_tuple {xs : List PyData} (h : sbs xs = true) : sb (.tuple xs) = true := by rw [sb]; exact h
theorem sbs_nil : sbs [] = true := by rw [sbs]
theorem sbs_cons {x : PyData} {xs : List PyData} (h : sb x = true) (g : sbs xs = true) : sbs (x :: xs) = true := by rw [sbs, h, g]; rfl
theorem sbs_app : ∀ {xs ys : List PyData}, sbs xs = true → sbs ys = true → sbs (xs ++ ys) = true
  | [], ys, _, g => g
  | x :: xs, ys, h, g => by
    rw [sbs, Bool.and_eq_true] at h
    exact sbs_cons h.1 (sbs_app h.2 g)
theorem sbs_all : ∀ {xs : List PyData}, (∀ x ∈ xs, sb x = true) → sbs xs = true
  | [], _ => sbs_nil
  | x :: xs, h => sbs_cons (h x List.mem_cons_self) (sbs_all fun y m => h y (List.mem_cons_of_mem _ m))
theorem w_sb {w : Str} (h : isG w ∨ isM w) : sb (.str w) = true := by
  rcases h with (rfl | rfl) | (rfl | rfl) <;> exact sb_str (by decide +kernel)
theorem use_sb : sb (.str "use") = true := sb_str (by decide +kernel)
theorem sx_sb {l : List Nat} (h : l.length ≤ SZ) : sb (.str (sx l)) = true := sb_str (by rw [sx_len]; exact h)
theorem sb_enc : ∀ {n : Nat} {j : Jb}, JW n j → sb (enc j) = true
  | 0, j, h => by rw [JW] at h; exact h.elim
  | n + 1, .st i, h => by rw [enc]; exact sb_int i
  | n + 1, .us l, h => by
    rw [JW] at h
    have := (nm_len h).2
    have zz := SZ_eq
    rw [enc]
    exact sb_tuple (sbs_cons use_sb (sbs_cons (sx_sb (by omega)) sbs_nil))
  | n + 1, .gr w ps, h => by
    rw [JW] at h
    rw [enc, encs_map]
    refine sb_tuple (sbs_cons (w_sb (.inl h.1)) (sbs_cons (sb_tuple (sbs_all fun x m => ?_)) sbs_nil))
    obtain ⟨q, mq, rfl⟩ := List.mem_map.mp m
    exact sb_enc (h.2.2 q mq)
  | n + 1, .ml w c j, h => by
    rw [JW] at h
    rw [enc]
    exact sb_tuple (sbs_cons (w_sb (.inr h.1)) (sbs_cons (sb_int c) (sbs_cons (sb_enc h.2.2) sbs_nil)))
theorem sb_iof (l : List Nat) : sb (iof l) = true := by
  unfold iof
  split
  · split
    · exact sb_none
    · exact sb_int _
  · exact sb_none
theorem sb_rdd : ∀ (n : Nat) (t : List Nat), t.length ≤ 50000 → sb (rdd n t) = true
  | 0, t, _ => by rw [rdd]; exact sb_none
  | n + 1, t, h => by
    have zz := SZ_eq
    rw [rdd]
    split
    · exact sb_iof t
    · rename_i w rest hp
      have l := par_len hp
      split
      · have li : (rest.take (rest.length - 1)).length ≤ rest.length := by rw [List.length_take]; omega
        generalize rest.take (rest.length - 1) = inner at li
        have pb : ∀ y ∈ prt inner, y.length ≤ inner.length := fun y m => by
          unfold prt at m
          split at m
          · cases m
          · exact splitP_b m
        unfold rin
        split
        · rename_i e
          rw [e]
          exact sb_tuple (sbs_cons use_sb (sbs_cons (sx_sb (by omega)) sbs_nil))
        · split
          · rename_i g
            refine sb_tuple (sbs_cons (w_sb (.inl g)) (sbs_cons (sb_tuple (sbs_all fun x m => ?_)) sbs_nil))
            obtain ⟨y, my, rfl⟩ := List.mem_map.mp m
            have := pb y my
            exact sb_rdd n y (by omega)
          · split
            · rename_i a b e
              split
              · rename_i g
                have := pb b (by rw [e]; simp)
                exact sb_tuple (sbs_cons (w_sb (.inr g)) (sbs_cons (sb_iof a) (sbs_cons (sb_rdd n b (by omega)) sbs_nil)))
              · exact sb_none
            · exact sb_none
      · exact sb_none
def FP (f : List Nat → Option (PyData × List Nat)) : Prop := ∀ s d r, f s = some (d, r) → s.length ≤ SZ → sb d = true ∧ r.length ≤ s.length
theorem lp_sb {f : List Nat → Option (PyData × List Nat)} (hf : FP f) : ∀ (m : Nat) (ps : List PyData) (s : List Nat) (qs : List PyData) (r : List Nat), lp f m ps s = some (qs, r) → s.length ≤ SZ → sbs ps = true → sbs qs = true ∧ r.length ≤ s.length
  | 0, ps, s, qs, r, h, _, _ => by rw [lp] at h; cases h
  | m + 1, ps, s, qs, r, h, l, hp => by
    rw [lp] at h
    split at h
    · cases h
      exact ⟨hp, by rw [List.length_drop]; omega⟩
    · split at h
      · cases h
      · have ls : (if ps = [] then s else s.drop 2).length ≤ s.length := by
          split
          · exact Nat.le_refl _
          · rw [List.length_drop]; omega
        generalize (if ps = [] then s else s.drop 2) = s' at h ls
        split at h
        · cases h
        · rename_i d r' e
          obtain ⟨a, b⟩ := hf _ _ _ e (by omega)
          obtain ⟨c, d'⟩ := lp_sb hf m (ps ++ [d]) r' qs r h (by omega) (sbs_app hp (sbs_cons a sbs_nil))
          exact ⟨c, by omega⟩
theorem lr_sb : ∀ n : Nat, FP (lr n)
  | 0 => fun s d r h _ => by rw [lr] at h; cases h
  | n + 1 => fun s d r h l => by
    rw [lr] at h
    split at h
    · split at h
      · cases h
        exact ⟨sb_int _, by rw [List.length_drop]; omega⟩
      · cases h
    · split at h
      · cases h
      · rename_i a s1 hp
        have l1 := par_len hp
        split at h
        · split at h
          · split at h
            · cases h
            · rename_i nm' r' hq
              cases h
              obtain ⟨p, e1, e2, _⟩ := par1_some hq
              have e3 := congrArg List.length e2
              rw [List.length_append, List.length_cons] at e3
              rw [e1, List.nil_append]
              exact ⟨sb_tuple (sbs_cons use_sb (sbs_cons (sx_sb (by omega)) sbs_nil)), by omega⟩
          · cases e : lp (lr n) (s1.length + 1) [] s1 with
            | none => rw [e] at h; cases h
            | some q =>
              obtain ⟨qs, r'⟩ := q
              obtain ⟨b1, b2⟩ := lp_sb (lr_sb n) _ _ _ _ _ e (by omega) sbs_nil
              rename_i hw _
              have sw : sb (.str (sx a)) = true := by
                unfold W5 at hw
                simp only [List.mem_cons, List.not_mem_nil, or_false] at hw
                rcases hw with z | z | z | z | z <;> (rw [z]; exact sb_str (by decide +kernel))
              rw [e] at h
              unfold fin27 at h
              dsimp only at h
              split at h
              · cases h
                exact ⟨sb_tuple (sbs_cons sw (sbs_cons (sb_tuple b1) sbs_nil)), by omega⟩
              · split at h
                · split at h
                  · cases h
                    exact ⟨sb_tuple (sbs_cons sw b1), by omega⟩
                  · cases h
                · cases h
        · cases h
theorem sb_lps {t : List Nat} (h : t.length ≤ 50000) : sb (lps t) = true := by
  have zz := SZ_eq
  unfold lps
  split
  · rename_i d r e
    split
    · exact (lr_sb _ _ _ _ e (by omega)).1
    · exact sb_none
  · exact sb_none
end Tx
namespace Tx
open PySem Mi Pl
/-- good jobs -/
def GJ (j : Jb) : Prop := JW 13 j ∧ jn j ≤ 400 ∧ (meas 13 (enc j)).isSome = true
theorem φ30 : ΦT ds 38 = some f38 := rfl
theorem φn20 : ΦT ds 20 = some f20 := rfl
theorem φn21 : ΦT ds 21 = some f21 := rfl
theorem φ31 : ΦT ds 39 = some f39 := rfl
theorem enc_some (j : Jb) : isN (enc j) = false := by cases j <;> (rw [enc]; rfl)
theorem ten51 : (10 ^ 51 : Nat) = 1000000000000000000000000000000000000000000000000000 := by decide +kernel
theorem w_rep {w : Str} (h : isG w ∨ isM w) : (reprText w).length ≤ 8 := by
  rcases h with (rfl | rfl) | (rfl | rfl) <;> decide +kernel
theorem b_abs {i : Int} (h : -mxI ≤ i ∧ i ≤ mxI) : i.natAbs < 10 ^ 51 := by
  rw [mx] at h
  rw [ten51]
  omega
mutual
theorem fitJ : ∀ (n : Nat) (j : Jb), JW n j → Fit (300 * jn j - 2) (2 * n) (enc j)
  | 0, j, h => by rw [JW] at h; exact h.elim
  | n + 1, .st i, h => by
    rw [JW] at h
    rw [enc, jn]
    exact (fit_int (n := 0) (b_abs h)).mono (by decide) (Nat.zero_le _)
  | n + 1, .us l, h => by
    rw [JW] at h
    rw [enc, jn]
    have q := PySem.StrLaws.reprText_len (sx l) (fun c m => by
      have := nm_let h c m
      have : (16 : Nat) ^ 8 = 4294967296 := by decide
      omega)
    rw [sx_len] at q
    have := (nm_len h).2
    exact (fit_tup (fits_cons (fit_strB (show (reprText ("use" : Str)).length ≤ 8 by decide +kernel)) (fits_cons (fit_strB q) (fits_nil (b := 0) (n := 0))))).mono (by omega) (by omega)
  | n + 1, .gr w ps, h => by
    rw [JW] at h
    rw [enc, jn]
    have q := fitJs n ps h.2.2
    exact (fit_tup (fits_cons (fit_strB (w_rep (.inl h.1))) (fits_cons (fit_tup q) (fits_nil (b := 0))))).mono (by omega) (by omega)
  | n + 1, .ml w c j, h => by
    rw [JW] at h
    rw [enc, jn]
    have q := (fitJ n j h.2.2).mono (Nat.le_refl _) (show 2 * n ≤ 2 * n + 1 by omega)
    have := jn_pos j
    exact (fit_tup (fits_cons (fit_strB (w_rep (.inr h.1))) (fits_cons (fit_int (b_abs (cnt_b h.2.1))) (fits_cons q (fits_nil (b := 0)))))).mono (by omega) (by omega)
theorem fitJs : ∀ (n : Nat) (ps : List Jb), (∀ p ∈ ps, JW n p) → Fits (300 * jns ps) (2 * n) (encs ps)
  | n, [], _ => by rw [encs]; exact fits_nil
  | n, p :: ps, h => by
    have a := fitJ n p (h p List.mem_cons_self)
    have b := fitJs n ps fun q m => h q (List.mem_cons_of_mem _ m)
    have := jn_pos p
    rw [encs, jns]
    exact (fits_cons a b).mono (by omega) (Nat.le_refl _)
end
theorem show_J {j : Jb} (h : GJ j) : showOk (enc j) = true := (fitJ 13 j h.1).ok (by have := h.2.1; rw [SZ_eq]; omega) (by decide)
section
variable {h : Sh}
theorem p5 {k : Nat} {d : PyData} : Cl (k + 30) 5 [.d d] h = .ok (.d (.bool (Pl.meas 13 d).isSome)) h := by
  rw [Cl, call_at φ5 rfl]
  refine fin_end (s_ret ?_)
  have q : Ev (k + 29) (.call 2 [.var 0, .glob 4]) [.v (.d d)] h = .ok (.d (encM (Pl.meas 13 d))) h := (e_call (es_cons rfl (es_cons (e_glob g4) es_nil))).trans (p2 13 d k h)
  refine e_cmp q rfl (show some (!isN (encM (Pl.meas 13 d))) = _ from ?_)
  cases Pl.meas 13 d <;> rfl
/-- the text of a plain job -/
theorem p12 {k : Nat} {j : Jb} (hj : GJ j) (pj : (Pl.meas 13 (enc j)).isSome = true) : Cl (k + 40) 18 [.d (enc j)] h = .ok (.d (.str (sx (wl j)))) h := by
  rw [Cl, call_at φ12 rfl]
  have t : tru (Ev (k + 39) (.call 5 [.var 0]) [.v (.d (enc j))] h) = .ok true h := t_b ((e_call rfl).trans ((p5 (k := k + 9)).trans (by rw [pj])))
  exact fin_end ((s_ifF (t_nF t)).trans (s_ret ((e_call rfl).trans (p8 13 j (k + 25) hj.1 hj.2.1))))
theorem cneed {k : Nat} {t : List Nat} : Cl (k + 1) 13 [.d (.str (sx t))] h = .ok (.d .none) h := by
  rw [Cl, call_at φ7 rfl]
  refine (congrArg fin ((s_ifF (h1 := h) (t_nF (t_isi (x := .str (sx t)) rfl rfl))).trans ss_nil)).trans rfl
/-- reading the text of a plain job -/
theorem p19 {k : Nat} {j : Jb} (hj : GJ j) (pj : (Pl.meas 13 (enc j)).isSome = true) (ht : (wl j).length ≤ 35000) : Cl (k + 50) 19 [.d (.str (sx (wl j)))] h = .ok (.d (enc j)) h := by
  have r := rdd_wl 13 j hj.1
  have c11 : Cl (k + 49) 17 [.d (.str (sx (wl j))), .d (.int 13)] h = .ok (.d (enc j)) h := (p11 13 (wl j) (k + 22) (by omega)).trans (by rw [r])
  rw [show k + 50 = (k + 49) + 1 by omega, Cl, call_at φ13 rfl]
  have t5 : tru (Ev (k + 49) (.call 5 [.var 1]) [.v (.d (.str (sx (wl j)))), .v (.d (enc j))] h) = .ok true h := t_b ((e_call rfl).trans ((p5 (k := k + 19)).trans (by rw [pj])))
  have t8 : tru (Ev (k + 49) (.cmp .NotEq (.call 14 [.var 1]) (.var 0)) [.v (.d (.str (sx (wl j)))), .v (.d (enc j))] h) = .ok false h :=
    t_cmp ((e_call rfl).trans (p8 13 j (k + 35) hj.1 hj.2.1)) rfl (cmp_ne.trans (by rw [eq_sx, decide_eq_true rfl]; rfl))
  exact fin_end ((s_expr ((e_call rfl).trans (cneed (k := k + 48)))).trans ((s_asg ((e_call (es_cons rfl (es_cons (e_glob g4) es_nil))).trans c11) rfl).trans ((s_ifF ((t_orF (t_nF t5)).trans (t_or1.trans t8))).trans (s_ret rfl))))
/-- the text of a definition -/
theorem p20 {k : Nat} {j : Jb} (hj : GJ j) : Cl (k + 40) 20 [.d (enc j)] h = .ok (.d (.str (sx (wl j)))) h := by
  rw [Cl, call_at φn20 rfl]
  have t : tru (Ev (k + 39) (.call 11 [.var 0]) [.v (.d (enc j))] h) = .ok true h := t_b ((e_call rfl).trans ((pn11 (k := k + 8) (sb_enc hj.1)).trans (by rw [hj.2.2])))
  exact fin_end ((s_ifF (t_nF t)).trans (s_ret ((e_call rfl).trans (p8 13 j (k + 25) hj.1 hj.2.1))))
theorem isjob_G {d : PyData} (hd : (meas 13 d).isSome = true) : ∃ j, d = enc j ∧ GJ j := by
  obtain ⟨j, e, a, b⟩ := isjob_enc hd
  subst e
  exact ⟨j, rfl, a, b, hd⟩
theorem p13 {k : Nat} {t : List Nat} (ht : t.length ≤ 35000) : (∀ j, GJ j → wl j = t → Cl (k + 50) 21 [.d (.str (sx t))] h = .ok (.d (enc j)) h) ∧ ((¬ ∃ j, GJ j ∧ wl j = t) → Cl (k + 50) 21 [.d (.str (sx t))] h = .ex ⟨2, none⟩ h) := by
  have c11 : Cl (k + 49) 17 [.d (.str (sx t)), .d (.int 13)] h = .ok (.d (rdd 13 t)) h := p11 13 t (k + 22) (by omega)
  have pre : ∀ r, evSs (Cf (k + 49)) (GT gs) 50000 (f21.body.drop 2) [.v (.d (.str (sx t))), .v (.d (rdd 13 t))] h = r → evSs (Cf (k + 49)) (GT gs) 50000 f21.body [.v (.d (.str (sx t))), .no] h = r := fun r hr =>
    (s_expr ((e_call rfl).trans (cneed (k := k + 48)))).trans ((s_asg ((e_call (es_cons rfl (es_cons (e_glob g4) es_nil))).trans c11) rfl).trans hr)
  have t5 : tru (Ev (k + 49) (.call 11 [.var 1]) [.v (.d (.str (sx t))), .v (.d (rdd 13 t))] h) = .ok (meas 13 (rdd 13 t)).isSome h := t_b ((e_call rfl).trans (pn11 (k := k + 18) (sb_rdd 13 t (by omega))))
  have t8 : ∀ j, rdd 13 t = enc j → GJ j → tru (Ev (k + 49) (.cmp .NotEq (.call 14 [.var 1]) (.var 0)) [.v (.d (.str (sx t))), .v (.d (rdd 13 t))] h) = .ok (!decide (wl j = t)) h := fun j e g => by
    rw [e]
    exact t_cmp ((e_call rfl).trans (p8 13 j (k + 35) g.1 g.2.1)) rfl (cmp_ne.trans (by rw [eq_sx]; rfl))
  constructor
  · intro j hj e
    have r := rdd_wl 13 j hj.1
    rw [e] at r
    rw [show k + 50 = (k + 49) + 1 by omega, Cl, call_at φn21 rfl]
    refine fin_end (pre _ ((s_ifF ((t_orF (t_nF (t5.trans (by rw [r, hj.2.2])))).trans (t_or1.trans ((t8 j r hj).trans (by rw [decide_eq_true e]; rfl))))).trans (s_ret ?_)))
    rw [r]
    rfl
  · intro no
    rw [show k + 50 = (k + 49) + 1 by omega, Cl, call_at φn21 rfl]
    have rs : evSs (Cf (k + 49)) (GT gs) 50000 [.raise 2] [.v (.d (.str (sx t))), .v (.d (rdd 13 t))] h = .ex ⟨2, none⟩ h := by rw [evSs, evS]; rfl
    refine (congrArg fin (pre (.ex ⟨2, none⟩ h) ?_)).trans rfl
    cases hb : (meas 13 (rdd 13 t)).isSome with
    | false => exact s_ifX (t_orT (t_nT (t5.trans (by rw [hb])))) rs
    | true =>
      obtain ⟨j, e, g⟩ := isjob_G hb
      have ne : wl j ≠ t := fun z => no ⟨j, g, z⟩
      exact s_ifX ((t_orF (t_nF (t5.trans (by rw [hb])))).trans (t_or1.trans ((t8 j e g).trans (by rw [decide_eq_false ne]; rfl)))) rs
/-- what the program tells of a text -/
theorem p30 {k : Nat} {t : List Nat} (ht : t.length ≤ 35000) : (∀ j, GJ j → wl j = t → Cl (k + 51) 38 [.d (.str (sx t))] h = .ok (.d (enc j)) h) ∧ ((¬ ∃ j, GJ j ∧ wl j = t) → Cl (k + 51) 38 [.d (.str (sx t))] h = .ok (.d (.str "refused")) h) := by
  obtain ⟨a, b⟩ := p13 (h := h) (k := k) ht
  constructor
  · intro j g e
    rw [show k + 51 = (k + 50) + 1 by omega, Cl, call_at φ30 rfl]
    refine fin_end (s_end ?_)
    have q : evSs (Cf (k + 50)) (GT gs) 50000 [.ret (.call 21 [.var 0])] [.v (.d (.str (sx t))), .no] h = .ok (.rt (.d (enc j))) h := s_ret ((e_call rfl).trans (a j g e))
    show evS (Cf (k + 50)) (GT gs) 50000 (.tryE [.ret (.call 21 [.var 0])] 0 [0, 1, 2] 1 _) [.v (.d (.str (sx t))), .no] h = _
    rw [evS, q]
  · intro no
    rw [show k + 51 = (k + 50) + 1 by omega, Cl, call_at φ30 rfl]
    refine fin_end (s_end ?_)
    have q : evSs (Cf (k + 50)) (GT gs) 50000 [.ret (.call 21 [.var 0])] [.v (.d (.str (sx t))), .no] h = .ex ⟨2, none⟩ h := s_retX ((e_call rfl).trans (b no))
    show evS (Cf (k + 50)) (GT gs) 50000 (.tryE [.ret (.call 21 [.var 0])] 0 [0, 1, 2] 1 (.ite (.and (.isx 2 [2]) (.not (.isx 1 [1]))) (.cst (.str "refused")) (.cst (.str "odd")))) [.v (.d (.str (sx t))), .no] h = _
    rw [evS, q]
    rfl
theorem show_ref : showOk (.str "refused") = true := by decide +kernel
theorem p31 {k : Nat} {t : List Nat} (ht : t.length ≤ 35000) (hB : B 100 t) : Cl (k + 204) 39 [.d (.str (sx t))] h = .ok (.d (.bool true)) h := by
  rw [Cl, call_at φ31 rfl]
  refine fin_end ((s_asg ((e_call rfl).trans (p28 (k := k) ht hB)) rfl).trans ?_)
  have told := p30 (h := h) (k := k + 152) ht
  have nn : tru (Ev (k + 203) (.cmp .IsNot (.var 1) (.cst .none)) [.v (.d (.str (sx t))), .v (.d (lps t)), .no] h) = .ok (!isN (lps t)) h := t_cmp rfl rfl rfl
  have nn' : Ev (k + 203) (.cmp .IsNot (.var 1) (.cst .none)) [.v (.d (.str (sx t))), .v (.d (lps t)), .no] h = .ok (.d (.bool (!isN (lps t)))) h := e_cmp rfl rfl rfl
  have c5 : Ev (k + 203) (.call 11 [.var 1]) [.v (.d (.str (sx t))), .v (.d (lps t)), .no] h = .ok (.d (.bool (meas 13 (lps t)).isSome)) h := (e_call rfl).trans (pn11 (k := k + 172) (sb_lps (by omega)))
  have c24 : ∀ j, lps t = enc j → GJ j → Ev (k + 203) (.cmp .Eq (.call 31 [.var 1]) (.var 0)) [.v (.d (.str (sx t))), .v (.d (lps t)), .no] h = .ok (.d (.bool (decide (wl j = t)))) h := fun j e g => by
    rw [e]
    exact e_cmp ((e_call rfl).trans (p24 13 j (k + 190) g.1 g.2.1)) rfl (cmp_eq.trans eq_sx)
  by_cases ex : ∃ j, GJ j ∧ wl j = t
  · obtain ⟨j, g, e⟩ := ex
    have lt : lps t = enc j := by rw [← e]; exact lps_wl g.1
    have v : Ev (k + 203) (.and [.cmp .IsNot (.var 1) (.cst .none), .call 11 [.var 1], .cmp .Eq (.call 31 [.var 1]) (.var 0)]) [.v (.d (.str (sx t))), .v (.d (lps t)), .no] h = .ok (.d (.bool (!isN (lps t) && ((meas 13 (lps t)).isSome && decide (wl j = t))))) h :=
      e_andB nn' fun _ => e_andB c5 fun _ => e_and1.trans (c24 j lt g)
    have n1 : isN (lps t) = false := by rw [lt]; exact enc_some j
    have n2 : (meas 13 (lps t)).isSome = true := by rw [lt]; exact g.2.2
    have v' : Ev (k + 203) (.and [.cmp .IsNot (.var 1) (.cst .none), .call 11 [.var 1], .cmp .Eq (.call 31 [.var 1]) (.var 0)]) [.v (.d (.str (sx t))), .v (.d (lps t)), .no] h = .ok (.d (.bool true)) h := v.trans (by rw [n1, n2, decide_eq_true e]; rfl)
    refine (s_asg v' rfl).trans (s_ret ?_)
    have sj := show_J g
    have it : Ev (k + 203) (.ite (.var 2) (.var 1) (.cst (.str "refused"))) [.v (.d (.str (sx t))), .v (.d (lps t)), .v (.d (.bool true))] h = .ok (.d (enc j)) h := by
      refine (e_ite (v := true) (t_b rfl)).trans ((if_pos rfl).trans ?_)
      rw [lt]
      rfl
    exact e_cmp (e_bi (es_cons ((e_call rfl).trans (told.1 j g e)) es_nil) rfl (repr_some sj)) (e_bi (es_cons it es_nil) rfl (repr_some sj)) (cmp_eq.trans (eq_str.trans (by rw [decide_eq_true rfl])))
  · have v : ∃ b, Ev (k + 203) (.and [.cmp .IsNot (.var 1) (.cst .none), .call 11 [.var 1], .cmp .Eq (.call 31 [.var 1]) (.var 0)]) [.v (.d (.str (sx t))), .v (.d (lps t)), .no] h = .ok (.d (.bool b)) h ∧ b = false := by
      cases hb : (meas 13 (lps t)).isSome with
      | false =>
        refine ⟨_, e_andB (w := false) nn' fun _ => ?_, by rw [Bool.and_false]⟩
        have := e_andB (C := Cf (k + 203)) (G := GT gs) (b := .cmp .Eq (.call 31 [.var 1]) (.var 0)) (r := []) (w := false) c5 fun z => by rw [hb] at z; cases z
        rw [hb] at this
        exact this
      | true =>
        obtain ⟨j, e, g⟩ := isjob_G hb
        have ne : wl j ≠ t := fun z => ex ⟨j, g, z⟩
        refine ⟨_, e_andB nn' fun _ => e_andB c5 fun _ => e_and1.trans (c24 j e g), ?_⟩
        rw [decide_eq_false ne, Bool.and_false, Bool.and_false]
    obtain ⟨b, v, rfl⟩ := v
    refine (s_asg v rfl).trans (s_ret ?_)
    have it : Ev (k + 203) (.ite (.var 2) (.var 1) (.cst (.str "refused"))) [.v (.d (.str (sx t))), .v (.d (lps t)), .v (.d (.bool false))] h = .ok (.d (.str "refused")) h := (e_ite (v := false) (t_b rfl)).trans ((if_neg Bool.false_ne_true).trans rfl)
    exact e_cmp (e_bi (es_cons ((e_call rfl).trans (told.2 ex)) es_nil) rfl (repr_some show_ref)) (e_bi (es_cons it es_nil) rfl (repr_some show_ref)) (cmp_eq.trans (eq_str.trans (by rw [decide_eq_true rfl])))
end
end Tx
namespace Tx
open PySem Mi Pl
/-! ### brackets -/
theorem B.mono {n m : Nat} {t : List Nat} (b : B n t) (h : n ≤ m) : B m t := fun p r e => Nat.le_trans (b p r e) (by omega)
theorem B.pre {n : Nat} {a b : List Nat} (h : B n (a ++ b)) : B n a := fun p r e => h p (r ++ b) (by rw [e, List.append_assoc])
theorem B.cat {n : Nat} {a b : List Nat} (h : B n a) (g : ∀ q r, b = q ++ r → a.count 40 + q.count 40 ≤ a.count 41 + q.count 41 + n) : B n (a ++ b) := fun p r e => by
  rcases List.append_eq_append_iff.mp e with ⟨q, e1, e2⟩ | ⟨q, e1, e2⟩
  · rw [e1, List.count_append, List.count_append]
    exact g q r e2
  · exact h p q e1
theorem B.app {n : Nat} {a b : List Nat} (h : B n a) (hb : a.count 40 ≤ a.count 41) (g : B n b) : B n (a ++ b) := B.cat h fun q r e => by have := g q r e; omega
theorem B.free {n : Nat} {a : List Nat} (h : a.count 40 = 0) : B n a := fun p r e => by
  rw [e, List.count_append] at h
  omega
theorem B.few {n : Nat} {a : List Nat} (h : a.count 40 ≤ n) : B n a := fun p r e => by
  rw [e, List.count_append] at h
  omega
theorem B.cons {n : Nat} {a : List Nat} (h : B n a) : B (n + 1) (40 :: a) := fun p r e => by
  cases p with
  | nil => exact Nat.zero_le _
  | cons x p =>
    injection e with e1 e2
    subst e1
    have := h p r e2
    rw [List.count_cons_self, List.count_cons_of_ne (by decide)]
    omega
theorem cnt_free {p : List Nat} (h : ∀ x ∈ p, x ≠ 44 ∧ x ≠ 40 ∧ x ≠ 41) : p.count 40 = 0 ∧ p.count 41 = 0 := ⟨List.count_eq_zero.mpr fun m => (h 40 m).2.1 rfl, List.count_eq_zero.mpr fun m => (h 41 m).2.2 rfl⟩
mutual
theorem B_wl : ∀ (n : Nat) (j : Jb), JW n j → B n (wl j) ∧ (wl j).count 40 = (wl j).count 41
  | 0, j, h => by rw [JW] at h; exact h.elim
  | n + 1, .st i, h => by
    have c := cnt_free (num_free i)
    rw [wl]
    exact ⟨B.free c.1, by rw [c.1, c.2]⟩
  | n + 1, .us l, h => by
    rw [JW] at h
    have c := cnt_free us_free
    have d := cnt_free (nm_free h)
    rw [wl]
    constructor
    · exact B.app (B.free c.1) (by rw [c.1, c.2]; exact Nat.le_refl _) (B.cons (B.app (B.free d.1) (by rw [d.1, d.2]; exact Nat.le_refl _) (B.free (by decide))))
    · rw [List.count_append, List.count_append, c.1, c.2, List.count_cons_self, List.count_cons_of_ne (by decide), List.count_append, List.count_append, d.1, d.2]
      rfl
  | n + 1, .gr w ps, h => by
    rw [JW] at h
    have c := cnt_free (w_free (.inl h.1))
    have a := B_wls n ps h.2.2
    rw [wl]
    constructor
    · exact B.app (B.free c.1) (by rw [c.1, c.2]; exact Nat.le_refl _) (B.cons (B.app a.1 (by omega) (B.free (by decide))))
    · rw [List.count_append, List.count_append, c.1, c.2, List.count_cons_self, List.count_cons_of_ne (by decide), List.count_append, List.count_append, a.2]
      rfl
  | n + 1, .ml w k j, h => by
    rw [JW] at h
    have c := cnt_free (w_free (.inr h.1))
    have d := cnt_free (num_free k)
    have a := B_wl n j h.2.2
    rw [wl]
    constructor
    · refine B.app (B.free c.1) (by rw [c.1, c.2]; exact Nat.le_refl _) (B.cons (B.app (B.free d.1) (by rw [d.1, d.2]; exact Nat.le_refl _) ?_))
      have e : (44 :: 32 :: (wl j ++ [41])) = [44, 32] ++ (wl j ++ [41]) := rfl
      rw [e]
      exact B.app (B.free (by decide)) (by decide) (B.app a.1 (by omega) (B.free (by decide)))
    · have e : (44 :: 32 :: (wl j ++ [41])) = [44, 32] ++ (wl j ++ [41]) := rfl
      rw [e, List.count_append, List.count_append, c.1, c.2, List.count_cons_self, List.count_cons_of_ne (by decide)]
      simp only [List.count_append, d.1, d.2, a.2]
      rfl
theorem B_wls : ∀ (n : Nat) (ps : List Jb), (∀ p ∈ ps, JW n p) → B n (TL.joinL [44, 32] (wls ps)) ∧ (TL.joinL [44, 32] (wls ps)).count 40 = (TL.joinL [44, 32] (wls ps)).count 41
  | n, [], _ => by
    rw [wls]
    exact ⟨B.free rfl, rfl⟩
  | n, [p], h => by
    rw [wls, wls]
    exact B_wl n p (h p List.mem_cons_self)
  | n, p :: q :: ps, h => by
    have e0 : TL.joinL [44, 32] (wls (p :: q :: ps)) = wl p ++ ([44, 32] ++ TL.joinL [44, 32] (wls (q :: ps))) := by rw [wls, wls]; rfl
    have a := B_wl n p (h p List.mem_cons_self)
    have b := B_wls n (q :: ps) fun z m => h z (List.mem_cons_of_mem _ m)
    rw [e0]
    constructor
    · exact B.app a.1 (by omega) (B.app (B.free (by decide)) (by decide) b.1)
    · simp only [List.count_append, a.2, b.2]
      rfl
end
/-- a text changed at one place -/
theorem B.bent {n i j : Nat} {t m : List Nat} (h : i ≤ j) (hj : j ≤ i + 2) (hm : m.length ≤ 4) (b : B n t) : B (n + 8) (t.take i ++ (m ++ t.drop j)) := by
  have e0 : t = t.take i ++ ((t.drop i).take (j - i) ++ t.drop j) := by
    have : t.drop j = (t.drop i).drop (j - i) := by rw [List.drop_drop]; congr 1; omega
    rw [this, List.take_append_drop, List.take_append_drop]
  have bt := b
  rw [e0] at bt
  refine B.cat ((B.pre bt).mono (by omega)) fun q r e => ?_
  have ba := (B.pre bt) (t.take i) [] (by rw [List.append_nil])
  rcases List.append_eq_append_iff.mp e with ⟨q2, e1, e2⟩ | ⟨q2, e1, e2⟩
  · have l1 := List.count_le_length (a := 40) (l := m)
    have l2 := List.count_le_length (a := 41) (l := (t.drop i).take (j - i))
    have l3 : ((t.drop i).take (j - i)).length ≤ 2 := by rw [List.length_take]; omega
    have bq := bt (t.take i ++ ((t.drop i).take (j - i) ++ q2)) r (by rw [e2]; simp only [List.append_assoc])
    rw [e1]
    simp only [List.count_append] at bq ⊢
    omega
  · have l1 := List.count_le_length (a := 40) (l := q)
    have l2 := congrArg List.length e1
    rw [List.length_append] at l2
    omega
theorem φ29 : ΦT ds 36 = some f36 := rfl
def L28 : List Nat := [48, 49, 50, 51, 52, 53, 54, 55, 56, 57, 45, 40, 41, 44, 32, 115, 101, 114, 113, 112, 97, 99, 111, 117, 116, 119, 58, 46]
theorem c_28 : ("0123456789-(), serqpacoutw:." : Str) = sx L28 := by decide +kernel
variable {hp : Sh}
theorem p29 {k N n : Nat} {s : S3} {t : List Nat} (ht : t.length ≤ 34000) (bt : B n t) (b : Bd N s) (hN : N ≤ 800000) : ∃ t' s', Cl (k + 2) 36 [.ref hp.length, .d (.str (sx t))] (hp ++ [ob s]) = .ok (.d (.str (sx t'))) (hp ++ [ob s']) ∧ t'.length ≤ t.length + 2 ∧ B (n + 8) t' ∧ Bd (N + 3) s' := by
  have zz := SZ_eq
  have m1 : (1 : Int) ≤ ((t.length + 1 : Nat) : Int) ∧ ((t.length + 1 : Nat) : Int) ≤ 1000000000 := by omega
  have el : ∀ env : En, env[1]? = some (.v (.d (.str (sx t)))) → Ev (k + 1) (.bin .Add (.bi .len [.var 1]) (.cst (.int 1))) env (hp ++ [ob s]) = .ok (.d (.int ((t.length + 1 : Nat) : Int))) (hp ++ [ob s]) := fun env he => e_bin (e_bi (es_cons (e_var he) es_nil) rfl (len_sx (by omega))) rfl rfl
  have d1 := dv_rg (s := s) (m := ((t.length + 1 : Nat) : Int)) m1.1
  have b1 := dn_bd (m := ((t.length + 1 : Nat) : Int)) m1.1 b
  have c1 := e_draw (hp := hp) (K := k) (env := [.v (.ref hp.length), .v (.d (.str (sx t))), .no, .no, .no]) b (by omega) m1 rfl (el _ rfl)
  obtain ⟨a, ha⟩ : ∃ a : Nat, dv s ((t.length + 1 : Nat) : Int) = a := ⟨(dv s ((t.length + 1 : Nat) : Int)).toNat, by omega⟩
  rw [ha] at c1 d1
  generalize dn s ((t.length + 1 : Nat) : Int) = s1 at *
  have d2 := dv_rg (s := s1) (m := 6) (by decide)
  have b2 := dn_bd (m := 6) (by decide) b1
  have c2 := e_draw (hp := hp) (K := k) (m := 6) (e := .cst (.int 6)) (env := [.v (.ref hp.length), .v (.d (.str (sx t))), .no, .no, .no]) b1 (by omega) (by decide) rfl rfl
  generalize dv s1 6 = w at *
  generalize dn s1 6 = s2 at *
  have d3 := dv_rg (s := s2) (m := 28) (by decide)
  have b3 := dn_bd (m := 28) (by decide) b2
  have c3 := e_draw (hp := hp) (K := k) (m := 28) (e := .cst (.int 28)) (env := [.v (.ref hp.length), .v (.d (.str (sx t))), .no, .v (.d (.int a)), .v (.d (.int w))]) b2 (by omega) (by decide) rfl rfl
  obtain ⟨v, hv⟩ : ∃ v : Nat, dv s2 28 = v := ⟨(dv s2 28).toNat, by omega⟩
  rw [hv] at c3 d3
  generalize dn s2 28 = s3 at *
  have lv : v < L28.length := by show v < 28; omega
  have ix := ix_sx (l := L28) (k := v) (by decide) (List.getElem?_eq_getElem lv)
  generalize hc : L28[v] = c at ix
  have al : a ≤ t.length := by omega
  have go : ∀ t', evSs (Cf (k + 1)) (GT gs) 50000 (f36.body.drop 2) [.v (.ref hp.length), .v (.d (.str (sx t))), .v (.d (.str (sx [c]))), .v (.d (.int a)), .v (.d (.int w))] (hp ++ [ob s3]) = .ok (.rt (.d (.str (sx t')))) (hp ++ [ob s3]) → Cl (k + 2) 36 [.ref hp.length, .d (.str (sx t))] (hp ++ [ob s]) = .ok (.d (.str (sx t'))) (hp ++ [ob s3]) := fun t' ht' => by
    rw [show k + 2 = (k + 1) + 1 by omega, Cl, call_at φ29 rfl]
    exact fin_end ((s_par (xs_e c1 (xs_e c2 xs_nil)) rfl).trans ((s_asg (e_ix (ecs c_28) c3 ix) rfl).trans ht'))
  have tw : ∀ i : Int, tru (Ev (k + 1) (.cmp .Eq (.var 4) (.cst (.int i))) [.v (.ref hp.length), .v (.d (.str (sx t))), .v (.d (.str (sx [c]))), .v (.d (.int a)), .v (.d (.int w))] (hp ++ [ob s3])) = .ok (decide (w = i)) (hp ++ [ob s3]) := fun i => t_cmp rfl rfl (cmp_eq.trans eq_int)
  have tk : Ev (k + 1) (.sliceT (.var 1) (.var 3)) [.v (.ref hp.length), .v (.d (.str (sx t))), .v (.d (.str (sx [c]))), .v (.d (.int a)), .v (.d (.int w))] (hp ++ [ob s3]) = .ok (.d (.str (sx (t.take a)))) (hp ++ [ob s3]) := e_slT' rfl rfl (sl_to (by omega))
  have dr0 : Ev (k + 1) (.sliceF (.var 1) (.var 3)) [.v (.ref hp.length), .v (.d (.str (sx t))), .v (.d (.str (sx [c]))), .v (.d (.int a)), .v (.d (.int w))] (hp ++ [ob s3]) = .ok (.d (.str (sx (t.drop a)))) (hp ++ [ob s3]) := e_slF' rfl rfl (sl_from (by omega))
  have dr : ∀ i : Nat, Ev (k + 1) (.sliceF (.var 1) (.bin .Add (.var 3) (.cst (.int i)))) [.v (.ref hp.length), .v (.d (.str (sx t))), .v (.d (.str (sx [c]))), .v (.d (.int a)), .v (.d (.int w))] (hp ++ [ob s3]) = .ok (.d (.str (sx (t.drop (a + i))))) (hp ++ [ob s3]) := fun i => e_slF' rfl (e_bin rfl rfl rfl) (sl_from (k := a + i) (by omega))
  have bt2 : Ev (k + 1) (.sliceB (.var 1) (.var 3) (.bin .Add (.var 3) (.cst (.int 2)))) [.v (.ref hp.length), .v (.d (.str (sx t))), .v (.d (.str (sx [c]))), .v (.d (.int a)), .v (.d (.int w))] (hp ++ [ob s3]) = .ok (.d (.str (sx ((t.drop a).take 2)))) (hp ++ [ob s3]) := by
    have := sl_btw (l := t) (i := a) (j := a + 2) (by omega)
    rw [Nat.add_sub_cancel_left] at this
    exact e_slB' rfl rfl (e_bin rfl rfl rfl) this
  have lt : (t.take a).length ≤ t.length := by rw [List.length_take]; omega
  have l2 : ((t.drop a).take 2).length ≤ 2 := by rw [List.length_take]; omega
  have ld : ∀ i, (t.drop i).length ≤ t.length := fun i => by rw [List.length_drop]; omega
  have lta : (t.take a).length = a := by rw [List.length_take]; omega
  have fin3 : ∀ (m : List Nat) (j : Nat), m.length ≤ 2 → a ≤ j → j ≤ a + 2 → (t.take a ++ (m ++ t.drop j)).length ≤ t.length + 2 := fun m j h1 h2 h3 => by
    rw [List.length_append, List.length_append, List.length_drop, lta]
    omega
  by_cases w0 : w = 0
  · refine ⟨t.take a ++ ([] ++ t.drop (a + 1)), s3, go _ (s_ifT ((tw 0).trans (by rw [decide_eq_true w0])) (s_ret (e_bin tk (dr 1) (add_sx (by have := ld (a + 1); omega))))), fin3 [] _ (by decide) (by omega) (by omega), B.bent (by omega) (by omega) (by decide) bt, b3⟩
  · have n0 := (tw 0).trans (show _ = R.ok false _ by rw [decide_eq_false w0])
    have ad1 := add_sx (a := t.take a) (b := [c]) (by rw [List.length_singleton]; omega)
    have la1 : (t.take a ++ [c]).length ≤ t.length + 1 := by rw [List.length_append, List.length_singleton]; omega
    by_cases w1 : w = 1
    · refine ⟨t.take a ++ ([c] ++ t.drop a), s3, go _ ((s_ifF n0).trans (s_ifT ((tw 1).trans (by rw [decide_eq_true w1])) (s_ret ?_))), fin3 [c] _ (by simp) (by omega) (by omega), B.bent (by omega) (by omega) (by simp) bt, b3⟩
      rw [← List.append_assoc]
      exact e_bin (e_bin tk rfl ad1) dr0 (add_sx (by have := ld a; omega))
    · have n1 := (tw 1).trans (show _ = R.ok false _ by rw [decide_eq_false w1])
      by_cases w2 : w = 2
      · refine ⟨t.take a ++ ([c] ++ t.drop (a + 1)), s3, go _ ((s_ifF n0).trans ((s_ifF n1).trans (s_ifT ((tw 2).trans (by rw [decide_eq_true w2])) (s_ret ?_)))), fin3 [c] _ (by simp) (by omega) (by omega), B.bent (by omega) (by omega) (by simp) bt, b3⟩
        rw [← List.append_assoc]
        exact e_bin (e_bin tk rfl ad1) (dr 1) (add_sx (by have := ld (a + 1); omega))
      · have n2 := (tw 2).trans (show _ = R.ok false _ by rw [decide_eq_false w2])
        by_cases w3 : w = 3
        · have lr' : ((t.drop a).take 2).reverse.length ≤ 2 := by rw [List.length_reverse]; exact l2
          refine ⟨t.take a ++ (((t.drop a).take 2).reverse ++ t.drop (a + 2)), s3, go _ ((s_ifF n0).trans ((s_ifF n1).trans ((s_ifF n2).trans (s_ifT ((tw 3).trans (by rw [decide_eq_true w3])) (s_ret ?_))))), fin3 _ _ lr' (by omega) (by omega), B.bent (by omega) (by omega) (by omega) bt, b3⟩
          rw [← List.append_assoc]
          exact e_bin (e_bin tk (e_rev bt2 (rev_sx (by omega))) (add_sx (by omega))) (dr 2) (add_sx (by rw [List.length_append]; have := ld (a + 2); omega))
        · have n3 := (tw 3).trans (show _ = R.ok false _ by rw [decide_eq_false w3])
          by_cases w4 : w = 4
          · refine ⟨t.take a ++ ((t.drop a).take 2 ++ t.drop a), s3, go _ ((s_ifF n0).trans ((s_ifF n1).trans ((s_ifF n2).trans ((s_ifF n3).trans (s_ret ((e_ite (tw 4)).trans ((if_pos (decide_eq_true w4)).trans ?_))))))), fin3 _ _ l2 (by omega) (by omega), B.bent (by omega) (by omega) (by omega) bt, b3⟩
            rw [← List.append_assoc]
            exact e_bin (e_bin tk bt2 (add_sx (by omega))) dr0 (add_sx (by rw [List.length_append]; have := ld a; omega))
          · refine ⟨t.take a, s3, go _ ((s_ifF n0).trans ((s_ifF n1).trans ((s_ifF n2).trans ((s_ifF n3).trans (s_ret ((e_ite (tw 4)).trans ((if_neg (by rw [decide_eq_false w4]; exact Bool.false_ne_true)).trans tk))))))), by omega, ?_, b3⟩
            have e : t = t.take a ++ t.drop a := (List.take_append_drop _ _).symm
            rw [e] at bt
            exact (B.pre bt).mono (by omega)
end Tx
namespace Tx
open PySem Mi Pl
/-! ### names drawn -/
theorem φn28 : ΦT ds 28 = some f28 := rfl
variable {hp : Sh}
def AL (l : List Nat) : Prop := ∀ x ∈ l, let' x = true
theorem nm_of {l : List Nat} (h : AL l) (h1 : 1 ≤ l.length ∧ l.length ≤ 8) : nm l = true := by
  unfold nm
  rw [decide_eq_true h1, List.all_eq_true.mpr h]
  rfl
theorem nm_al {l : List Nat} (h : nm l = true) : AL l := fun x m => by
  unfold nm at h
  rw [Bool.and_eq_true, List.all_eq_true] at h
  exact h.2 x m
theorem L26_let : ∀ x ∈ L26, let' x = true := by decide
theorem L26_mem {c : Nat} (h : let' c = true) : c ∈ L26 := by
  have := mem_L26 c
  rw [h] at this
  exact of_decide_eq_true this
theorem idx26 : ∀ c ∈ L26, ((PySem.Builtin.Str.occurrences (sx L26) (sx [c]) 0 (sx L26).length 1).head?).isSome = true := by decide +kernel
theorem index26 {c : Nat} (h : let' c = true) : ∃ i : Nat, meD .index (.str (sx L26)) [.str (sx [c])] = some (.int i) := by
  have q := idx26 c (L26_mem h)
  obtain ⟨i, e⟩ := Option.isSome_iff_exists.mp q
  refine ⟨i, ?_⟩
  show ((PySem.Builtin.Str.occurrences (sx L26) (sx [c]) 0 (sx L26).length 1).head?).map (fun (i : Nat) => PyData.int (i : Int)) = _
  rw [e]
  rfl
/-- a letter by its place -/
theorem letter26 {v : Int} (h0 : 0 ≤ v) (h1 : v < 26) : ∃ c, let' c = true ∧ ixD (.str (sx L26)) v = some (.str (sx [c])) := by
  obtain ⟨n, rfl⟩ : ∃ n : Nat, v = n := ⟨v.toNat, by omega⟩
  have l : n < L26.length := by show n < 26; omega
  exact ⟨L26[n], L26_let _ (List.getElem_mem _), ix_sx (by decide) (List.getElem?_eq_getElem l)⟩
abbrev E28 (L : Nat) (m : Nat) (found : List (List Nat)) (t : Sl) (n : List Nat) (s6 s7 : Sl) : En := [.v (.ref L), .v (.d (.int (m : Int))), .v (.d (.str (sx L26))), .own (strL found), t, .v (.d (.str (sx n))), s6, s7]
def body6 : List Ts := [.asg (.n 5) (.bin .Add (.var 5) (.ix (.var 2) (.call 23 [.var 0, .cst (.int 26)])))]
theorem loop6 {K m : Nat} {found : List (List Nat)} {t s7 : Sl} : ∀ (r : Nat) (lo : Int) (N : Nat) (s : S3) (acc : List Nat) (s6 : Sl), Bd N s → N + r ≤ 800000 → AL acc → acc.length + r ≤ 1000 →
    ∃ acc' t6 s', forLoop (evSs (Cf (K + 1)) (GT gs) 50000 body6) (.n 6) (rng lo r) (E28 hp.length m found t acc s6 s7) (hp ++ [ob s]) = .ok (.nx (E28 hp.length m found t acc' t6 s7)) (hp ++ [ob s']) ∧ AL acc' ∧ acc'.length = acc.length + r ∧ Bd (N + r) s'
  | 0, lo, N, s, acc, s6, b, _, al, _ => ⟨acc, s6, s, fl_nil, al, rfl, b⟩
  | r + 1, lo, N, s, acc, s6, b, hN, al, hl => by
    have zz := SZ_eq
    have d1 := dv_rg (s := s) (m := 26) (by decide)
    obtain ⟨c, lc, ic⟩ := letter26 d1.1 d1.2
    have c1 := e_draw (hp := hp) (K := K) (m := 26) (e := .cst (.int 26)) (env := E28 hp.length m found t acc (.v (.d (.int lo))) s7) b (by omega) (by decide) rfl rfl
    have st : evSs (Cf (K + 1)) (GT gs) 50000 body6 (E28 hp.length m found t acc (.v (.d (.int lo))) s7) (hp ++ [ob s]) = .ok (.nx (E28 hp.length m found t (acc ++ [c]) (.v (.d (.int lo))) s7)) (hp ++ [ob (dn s 26)]) :=
      (s_asg (e_bin rfl (e_ix rfl c1 ic) (add_sx (by rw [List.length_singleton]; omega))) rfl).trans ss_nil
    obtain ⟨acc', t6, s', q, al', l', b'⟩ := loop6 (K := K) (m := m) (found := found) (t := t) (s7 := s7) r (lo + 1) (N + 1) (dn s 26) (acc ++ [c]) (.v (.d (.int lo))) (dn_bd (by decide) b) (by omega) (fun x mx' => by
      rcases List.mem_append.mp mx' with z | z
      · exact al x z
      · rw [List.mem_singleton.mp z]; exact lc) (by rw [List.length_append, List.length_singleton]; omega)
    exact ⟨acc', t6, s', fl_next rfl st q, al', by rw [l', List.length_append, List.length_singleton]; omega, b'.mono (by omega)⟩
def body7 : List Ts := [.iff (.cmp .In (.var 5) (.peek 3)) [.asg (.n 5) (.bin .Add (.ix (.var 2) (.bin .Mod (.bin .Add (.me .index (.var 2) [.ix (.var 5) (.cst (.int 0))]) (.cst (.int 1))) (.cst (.int 26)))) (.sliceF (.var 5) (.cst (.int 1))))] []]
theorem turn7 {K m : Nat} {found : List (List Nat)} {t s6 s7 : Sl} {n : List Nat} {h : Sh} (hn : nm n = true) :
    ∃ n', evSs (Cf K) (GT gs) 50000 body7 (E28 hp.length m found t n s6 s7) h = .ok (.nx (E28 hp.length m found t n' s6 s7)) h ∧ nm n' = true := by
  have zz := SZ_eq
  have nl := nm_len hn
  have tin : tru (Ev K (.cmp .In (.var 5) (.peek 3)) (E28 hp.length m found t n s6 s7) h) = .ok (decide (sx n ∈ found.map sx)) h := by
    refine t_cmp (y := .list (strL found)) rfl rfl ?_
    have := in_str (w := sx n) (ys := found.map sx)
    rw [List.map_map] at this
    exact this
  by_cases c : sx n ∈ found.map sx
  · obtain ⟨a, r, rfl⟩ : ∃ a r, n = a :: r := by
      cases n with
      | nil => exact absurd nl.1 (by decide)
      | cons a r => exact ⟨a, r, rfl⟩
    have al := nm_al hn
    obtain ⟨i, ei⟩ := index26 (al a List.mem_cons_self)
    obtain ⟨c', lc, ic⟩ := letter26 (v := ((i : Int) + 1) % 26) (by omega) (by omega)
    have e0 : Ev K (.ix (.var 5) (.cst (.int 0))) (E28 hp.length m found t (a :: r) s6 s7) h = .ok (.d (.str (sx [a]))) h := e_ix rfl rfl (ix_sx (k := 0) (by omega) rfl)
    have e1 : Ev K (.ix (.var 2) (.bin .Mod (.bin .Add (.me .index (.var 2) [.ix (.var 5) (.cst (.int 0))]) (.cst (.int 1))) (.cst (.int 26)))) (E28 hp.length m found t (a :: r) s6 s7) h = .ok (.d (.str (sx [c']))) h :=
      e_ix rfl (e_bin (e_bin (e_me (m := .index) rfl (es_cons e0 es_nil) rfl ei) rfl rfl) rfl (modB (by decide))) ic
    have e2 : Ev K (.sliceF (.var 5) (.cst (.int 1))) (E28 hp.length m found t (a :: r) s6 s7) h = .ok (.d (.str (sx r))) h := e_slF' rfl rfl (sl_from (k := 1) (by omega))
    rw [List.length_cons] at nl
    refine ⟨c' :: r, (s_ifN (tin.trans (by rw [decide_eq_true c])) ((s_asg (e_bin e1 e2 (add_sx (by rw [List.length_singleton]; omega))) rfl).trans ss_nil)).trans ss_nil, nm_of (fun x mx' => ?_) (by rw [List.length_cons]; omega)⟩
    rcases List.mem_cons.mp mx' with rfl | z
    · exact lc
    · exact al x (List.mem_cons_of_mem _ z)
  · exact ⟨n, (s_ifF (tin.trans (by rw [decide_eq_false c]))).trans ss_nil, hn⟩
theorem loop7 {K m : Nat} {found : List (List Nat)} {t s6 : Sl} {h : Sh} : ∀ (r : Nat) (lo : Int) (n : List Nat) (s7 : Sl), nm n = true →
    ∃ n' t7, forLoop (evSs (Cf K) (GT gs) 50000 body7) (.n 7) (rng lo r) (E28 hp.length m found t n s6 s7) h = .ok (.nx (E28 hp.length m found t n' s6 t7)) h ∧ nm n' = true
  | 0, lo, n, s7, hn => ⟨n, s7, fl_nil, hn⟩
  | r + 1, lo, n, s7, hn => by
    obtain ⟨n1, q, h1⟩ := turn7 (hp := hp) (K := K) (m := m) (found := found) (t := t) (s6 := s6) (s7 := .v (.d (.int lo))) (h := h) hn
    obtain ⟨n2, t7, q2, h2⟩ := loop7 (K := K) (m := m) (found := found) (t := t) (s6 := s6) (h := h) r (lo + 1) n1 (.v (.d (.int lo))) h1
    exact ⟨n2, t7, fl_next rfl q q2, h2⟩
def body4 : List Ts := [.asg (.n 5) (.cst (.str "")), .for (.n 6) .range1 [.ix (.ofL (.disp [.cst (.int 1), .cst (.int 1), .cst (.int 2), .cst (.int 3), .cst (.int 8)])) (.call 23 [.var 0, .cst (.int 5)])] body6, .iff (.and [.cmp .NotEq (.peek 3) (.ofL (.disp [])), .cmp .Eq (.call 23 [.var 0, .cst (.int 4)]) (.cst (.int 0))]) [.asg (.n 5) (.sliceT (.bin .Add (.ix (.peek 3) (.neg (.cst (.int 1)))) (.cst (.str "a"))) (.cst (.int 8)))] [], .for (.n 7) .range1 [.var 1] body7, .app 3 (.var 5)]
theorem c_a : ("a" : Str) = sx [97] := by decide +kernel
def NS (ns : List (List Nat)) : Prop := ∀ n ∈ ns, nm n = true
theorem rngV {j : Nat} (h : j ≤ 1000) : evIt .range1 [.d (.int (j : Int))] = some (rng 0 j) := by
  show (if -1000000 ≤ (j : Int) ∧ (j : Int) ≤ 1000000 then some (rng 0 (j : Int).toNat) else none) = _
  rw [if_pos (by omega), Int.toNat_natCast]
theorem turn4 {K m N : Nat} {s : S3} {found : List (List Nat)} {t s5 s6 s7 : Sl} (b : Bd N s) (hN : N ≤ 700000) (hf : NS found) (lf : found.length ≤ 1000) (hm : m ≤ 100) :
    ∃ n t6 t7 s', evSs (Cf (K + 1)) (GT gs) 50000 body4 [.v (.ref hp.length), .v (.d (.int (m : Int))), .v (.d (.str (sx L26))), .own (strL found), t, s5, s6, s7] (hp ++ [ob s]) = .ok (.nx (E28 hp.length m (found ++ [n]) t n t6 t7)) (hp ++ [ob s']) ∧ nm n = true ∧ Bd (N + 20) s' := by
  have zz := SZ_eq
  have d1 := dv_rg (s := s) (m := 5) (by decide)
  have c1 := e_draw (hp := hp) (K := K) (m := 5) (e := .cst (.int 5)) (env := E28 hp.length m found t [] s6 s7) b (by omega) (by decide) rfl rfl
  have b1 := dn_bd (m := 5) (by decide) b
  obtain ⟨x, mx', ax⟩ := at_lt' (xs := [.int 1, .int 1, .int 2, .int 3, .int 8]) d1.1 d1.2
  obtain ⟨c, rfl, c0⟩ : ∃ c : Nat, x = .int c ∧ 1 ≤ c ∧ c ≤ 8 := by
    simp only [List.mem_cons, List.not_mem_nil, or_false] at mx'
    rcases mx' with rfl | rfl | rfl | rfl | rfl
    · exact ⟨1, rfl, by decide, by decide⟩
    · exact ⟨1, rfl, by decide, by decide⟩
    · exact ⟨2, rfl, by decide, by decide⟩
    · exact ⟨3, rfl, by decide, by decide⟩
    · exact ⟨8, rfl, by decide, by decide⟩
  generalize dn s 5 = s1 at *
  generalize dv s 5 = v1 at *
  obtain ⟨acc, t6, s2, q6, al, la, b2⟩ := loop6 (hp := hp) (K := K) (m := m) (found := found) (t := t) (s7 := s7) c 0 (N + 1) s1 [] s6 b1 (by omega) (fun x m => by cases m) (by show 0 + c ≤ _; omega)
  rw [List.length_nil, Nat.zero_add] at la
  have nacc : nm acc = true := nm_of al (by omega)
  have fi : Ev (K + 1) (.ix (.ofL (.disp [.cst (.int 1), .cst (.int 1), .cst (.int 2), .cst (.int 3), .cst (.int 8)])) (.call 23 [.var 0, .cst (.int 5)])) (E28 hp.length m found t [] s6 s7) (hp ++ [ob s]) = .ok (.d (.int c)) (hp ++ [ob s1]) :=
    e_ix (x := .list [.int 1, .int 1, .int 2, .int 3, .int 8]) (e_disp (es_cons rfl (es_cons rfl (es_cons rfl (es_cons rfl (es_cons rfl es_nil))))) rfl (Nat.le_of_ble_eq_true rfl)) c1 ax
  have head : ∀ r, evSs (Cf (K + 1)) (GT gs) 50000 (body4.drop 2) (E28 hp.length m found t acc t6 s7) (hp ++ [ob s2]) = r → evSs (Cf (K + 1)) (GT gs) 50000 body4 [.v (.ref hp.length), .v (.d (.int (m : Int))), .v (.d (.str (sx L26))), .own (strL found), t, s5, s6, s7] (hp ++ [ob s]) = r := fun r hr =>
    (s_asg (ecs c_em) rfl).trans ((s_for (items := rng 0 c) (es_cons fi es_nil) (rngV (by omega)) q6).trans hr)
  -- what follows once the name is settled
  have tail : ∀ (n : List Nat) (s3 : S3), nm n = true → ∃ n' t7, evSs (Cf (K + 1)) (GT gs) 50000 (body4.drop 3) (E28 hp.length m found t n t6 s7) (hp ++ [ob s3]) = .ok (.nx (E28 hp.length m (found ++ [n']) t n' t6 t7)) (hp ++ [ob s3]) ∧ nm n' = true := fun n s3 hn => by
    obtain ⟨n', t7, q7, h7⟩ := loop7 (hp := hp) (K := K + 1) (m := m) (found := found) (t := t) (s6 := t6) (h := hp ++ [ob s3]) m 0 n s7 hn
    refine ⟨n', t7, (s_for (items := rng 0 m) (es_cons rfl es_nil) (rngV (by omega)) q7).trans ((s_app (xs := strL found) (v := .str (sx n')) rfl rfl (by rw [strL_len]; omega)).trans (ss_nil.trans ?_)), h7⟩
    show R.ok (Out.nx [_, _, _, Sl.own (strL found ++ strL [n']), _, _, _, _]) _ = R.ok (Out.nx [_, _, _, Sl.own (strL (found ++ [n'])), _, _, _, _]) _
    rw [strL_app]
  have te : tru (Ev (K + 1) (.cmp .NotEq (.peek 3) (.ofL (.disp []))) (E28 hp.length m found t acc t6 s7) (hp ++ [ob s2])) = .ok (!(strL found).isEmpty) (hp ++ [ob s2]) := t_cmp (e_peek (i := 3) rfl) (e_disp es_nil rfl (Nat.zero_le _)) eq_nilL
  rcases List.eq_nil_or_concat found with e | ⟨init, last, e⟩
  · obtain ⟨n', t7, q, h7⟩ := tail acc s2 nacc
    refine ⟨n', t6, t7, s2, head _ ((s_ifF (t_andF (te.trans (by rw [e]; rfl)))).trans q), h7, b2.mono (by omega)⟩
  · rw [List.concat_eq_append] at e
    have ne : (!(strL found).isEmpty) = true := by rw [e, strL_app]; simp [strL]
    rw [ne] at te
    have d4 := dv_rg (s := s2) (m := 4) (by decide)
    have c4 := e_draw (hp := hp) (K := K) (m := 4) (e := .cst (.int 4)) (env := E28 hp.length m found t acc t6 s7) b2 (by omega) (by decide) rfl rfl
    have b3 := dn_bd (m := 4) (by decide) b2
    have t4 : tru (Ev (K + 1) (.cmp .Eq (.call 23 [.var 0, .cst (.int 4)]) (.cst (.int 0))) (E28 hp.length m found t acc t6 s7) (hp ++ [ob s2])) = .ok (decide (dv s2 4 = 0)) (hp ++ [ob (dn s2 4)]) := t_cmp c4 rfl (cmp_eq.trans eq_int)
    have tt := (t_andT te).trans (t_and1.trans t4)
    by_cases z : dv s2 4 = 0
    · have hl : nm last = true := hf last (by rw [e]; simp)
      have ll := nm_len hl
      have il : Ev (K + 1) (.ix (.peek 3) (.neg (.cst (.int 1)))) (E28 hp.length m found t acc t6 s7) (hp ++ [ob (dn s2 4)]) = .ok (.d (.str (sx last))) (hp ++ [ob (dn s2 4)]) := e_ix (e_peek (i := 3) (xs := strL found) rfl) rfl (by rw [e]; exact last_L init last)
      have sl : Ev (K + 1) (.sliceT (.bin .Add (.ix (.peek 3) (.neg (.cst (.int 1)))) (.cst (.str "a"))) (.cst (.int 8))) (E28 hp.length m found t acc t6 s7) (hp ++ [ob (dn s2 4)]) = .ok (.d (.str (sx ((last ++ [97]).take 8)))) (hp ++ [ob (dn s2 4)]) :=
        e_slT' (e_bin il (ecs c_a) (add_sx (by rw [List.length_singleton]; omega))) rfl (sl_to (k := 8) (by rw [List.length_append, List.length_singleton]; omega))
      have hn : nm ((last ++ [97]).take 8) = true := nm_of (fun x mx => by
        rcases List.mem_append.mp (List.mem_of_mem_take mx) with q | q
        · exact nm_al hl x q
        · rw [List.mem_singleton.mp q]; decide) (by rw [List.length_take, List.length_append, List.length_singleton]; omega)
      obtain ⟨n', t7, q, h7⟩ := tail _ (dn s2 4) hn
      exact ⟨n', t6, t7, dn s2 4, head _ ((s_ifN (tt.trans (by rw [decide_eq_true z])) ((s_asg sl rfl).trans ss_nil)).trans q), h7, b3.mono (by omega)⟩
    · obtain ⟨n', t7, q, h7⟩ := tail acc (dn s2 4) nacc
      exact ⟨n', t6, t7, dn s2 4, head _ ((s_ifF (tt.trans (by rw [decide_eq_false z]))).trans q), h7, b3.mono (by omega)⟩
theorem loop4 {K m : Nat} (hm : m ≤ 100) : ∀ (r : Nat) (lo : Int) (N : Nat) (s : S3) (found : List (List Nat)) (s4 s5 s6 s7 : Sl), Bd N s → N + 20 * r ≤ 700000 → NS found → found.length + r ≤ 1000 →
    ∃ found' t4 t5 t6 t7 s', forLoop (evSs (Cf (K + 1)) (GT gs) 50000 body4) (.n 4) (rng lo r) [.v (.ref hp.length), .v (.d (.int (m : Int))), .v (.d (.str (sx L26))), .own (strL found), s4, s5, s6, s7] (hp ++ [ob s]) = .ok (.nx [.v (.ref hp.length), .v (.d (.int (m : Int))), .v (.d (.str (sx L26))), .own (strL found'), t4, t5, t6, t7]) (hp ++ [ob s']) ∧ NS found' ∧ found'.length = found.length + r ∧ Bd (N + 20 * r) s'
  | 0, lo, N, s, found, s4, s5, s6, s7, b, _, hf, _ => ⟨found, s4, s5, s6, s7, s, fl_nil, hf, rfl, b⟩
  | r + 1, lo, N, s, found, s4, s5, s6, s7, b, hN, hf, lf => by
    obtain ⟨n, t6, t7, s1, q, hn, b1⟩ := turn4 (hp := hp) (K := K) (m := m) (t := .v (.d (.int lo))) (s5 := s5) (s6 := s6) (s7 := s7) b (by omega) hf (by omega) hm
    obtain ⟨found', u4, u5, u6, u7, s', q2, hf', lf', b2⟩ := loop4 hm r (lo + 1) (N + 20) s1 (found ++ [n]) (.v (.d (.int lo))) (.v (.d (.str (sx n)))) t6 t7 b1 (by omega) (fun x mx => by
      rcases List.mem_append.mp mx with z | z
      · exact hf x z
      · rw [List.mem_singleton.mp z]; exact hn) (by rw [List.length_append, List.length_singleton]; omega)
    exact ⟨found', u4, u5, u6, u7, s', fl_next rfl q q2, hf', by rw [lf', List.length_append, List.length_singleton]; omega, b2.mono (by omega)⟩
theorem pn28 {k m N : Nat} {s : S3} (b : Bd N s) (hN : N ≤ 600000) (hm : 1 ≤ m ∧ m ≤ 100) : ∃ ns s', Cl (k + 2) 28 [.ref hp.length, .d (.int (m : Int))] (hp ++ [ob s]) = .ok (.d (.list (strL ns))) (hp ++ [ob s']) ∧ NS ns ∧ ns.length = m ∧ Bd (N + 20 * m) s' := by
  obtain ⟨ns, t4, t5, t6, t7, s', q, hf, lf, b'⟩ := loop4 (hp := hp) (K := k) hm.2 m 0 N s [] .no .no .no .no b (by omega) (fun n m => by cases m) (by show 0 + m ≤ _; omega)
  refine ⟨ns, s', ?_, hf, by rw [lf, List.length_nil, Nat.zero_add], b'⟩
  rw [show k + 2 = (k + 1) + 1 from rfl, Cl, call_at φn28 rfl]
  refine fin_end ((s_asg (ecs c_ll) rfl).trans ((s_own (v := strL []) (l_disp es_nil rfl (Nat.zero_le _))).trans ((s_for (items := rng 0 m) (es_cons rfl es_nil) (rngV (by omega)) q).trans ?_)))
  refine (s_step (env' := [.v (.ref hp.length), .v (.d (.int (m : Int))), .v (.d (.str (sx L26))), .v (.d (.list (strL ns))), t4, t5, t6, t7]) (h1 := hp ++ [ob s']) (by rw [evS]; rfl)).trans (s_ret rfl)
end Tx
namespace Tx
open PySem Mi Pl
/-! ### names put into a plain job -/
theorem φn37 : ΦT ds 37 = some f37 := rfl
variable {hp : Sh}
/-- what a plain job becomes -/
structure US (n : Nat) (j : Pl.Jb) (d : Jb) : Prop where
  w : JW n d
  n : jn d = Pl.jn j
  s : js d ≤ Pl.js j
structure USs (n : Nat) (ps : List Pl.Jb) (ds : List Jb) : Prop where
  l : ds.length = ps.length
  w : ∀ d ∈ ds, JW n d
  n : jns ds = Pl.jns ps
  s : jss ds ≤ Pl.jss ps
theorem names_at {ns : List (List Nat)} {v : Int} (hn : NS ns) (h0 : 0 ≤ v) (h1 : v < ns.length) : ∃ l, nm l = true ∧ ixD (.list (strL ns)) v = some (.str (sx l)) := by
  obtain ⟨x, mx', e⟩ := at_lt' (xs := strL ns) h0 (by rw [strL_len]; exact h1)
  obtain ⟨l, ml, rfl⟩ := List.mem_map.mp mx'
  exact ⟨l, hn l ml, e⟩
theorem parts37 {K n : Nat} {ns : List (List Nat)} {d : PyData} : ∀ (ps : List Pl.Jb) (N : Nat) (s : S3), Bd N s → N + 2 * Pl.jns ps ≤ 700000 →
    (∀ p ∈ ps, ∀ (N : Nat) (s : S3), Bd N s → N + 2 * Pl.jn p ≤ 700000 → ∃ j' s', Cl K 37 [.ref hp.length, .d (Pl.enc p), .d (.list (strL ns))] (hp ++ [ob s]) = .ok (.d (enc j')) (hp ++ [ob s']) ∧ US n p j' ∧ Bd (N + 2 * Pl.jn p) s') →
    ∃ es s', compLoop (.n 3) (evC (Cf K) (GT gs) []) (evE (Cf K) (GT gs) (.call 37 [.var 0, .var 3, .var 2])) [.v (.ref hp.length), .v (.d d), .v (.d (.list (strL ns))), .no] ((Pl.encs ps).map .d) (hp ++ [ob s]) = .ok (encs es) (hp ++ [ob s']) ∧ USs n ps es ∧ Bd (N + 2 * Pl.jns ps) s'
  | [], N, s, b, _, _ => ⟨[], s, by rw [encs, Pl.encs]; exact comp_nil, ⟨rfl, fun d m => (List.not_mem_nil m).elim, by rw [jns, Pl.jns], by rw [jss, Pl.jss]; exact Int.le_refl _⟩, b⟩
  | p :: ps, N, s, b, hN, ih => by
    rw [Pl.jns] at hN
    obtain ⟨x, s1, q, dx, b1⟩ := ih p List.mem_cons_self N s b (by omega)
    obtain ⟨es, s2, q2, de, b2⟩ := parts37 (K := K) (n := n) (ns := ns) (d := d) ps (N + 2 * Pl.jn p) s1 b1 (by omega) fun y m => ih y (List.mem_cons_of_mem _ m)
    refine ⟨x :: es, s2, ?_, ⟨by rw [List.length_cons, List.length_cons, de.l], fun y m => ?_, by rw [jns, Pl.jns, dx.n, de.n], ?_⟩, b2.mono (by rw [Pl.jns]; omega)⟩
    · rw [encs, Pl.encs, List.map_cons]
      exact comp_next (env' := [.v (.ref hp.length), .v (.d d), .v (.d (.list (strL ns))), .v (.d (Pl.enc p))]) rfl ((e_call (es_cons rfl (es_cons rfl (es_cons rfl es_nil)))).trans q) q2
    · rcases List.mem_cons.mp m with rfl | m
      · exact dx.w
      · exact de.w y m
    · have := dx.s
      have := de.s
      rw [jss, Pl.jss]
      omega
theorem pn37 {ns : List (List Nat)} (hn : NS ns) (ln : 1 ≤ ns.length ∧ ns.length ≤ 100) : ∀ (n : Nat) (j : Pl.Jb) (k N : Nat) (s : S3), Pl.JW n j → Pl.jn j ≤ 400 → Bd N s → N + 2 * Pl.jn j ≤ 700000 →
    ∃ j' s', Cl (k + n + 1) 37 [.ref hp.length, .d (Pl.enc j), .d (.list (strL ns))] (hp ++ [ob s]) = .ok (.d (enc j')) (hp ++ [ob s']) ∧ US n j j' ∧ Bd (N + 2 * Pl.jn j) s'
  | 0, j, k, N, s, h, _, _, _ => by rw [Pl.JW] at h; exact h.elim
  | n + 1, .st i, k, N, s, h, _, b, hN => by
    rw [Pl.JW] at h
    rw [Pl.jn] at hN
    have hl : (1 : Int) ≤ (ns.length : Int) ∧ (ns.length : Int) ≤ 1000000000 := by omega
    have t0 : tru (Ev (k + (n + 1)) (.isi (.var 1) [.int]) [.v (.ref hp.length), .v (.d (Pl.enc (.st i))), .v (.d (.list (strL ns))), .no] (hp ++ [ob s])) = .ok true (hp ++ [ob s]) := t_isi rfl (by rw [Pl.enc]; rfl)
    have d1 := dv_rg (s := s) (m := 2) (by decide)
    have c1 := e_draw (hp := hp) (K := k + n) (m := 2) (e := .cst (.int 2)) (env := [.v (.ref hp.length), .v (.d (Pl.enc (.st i))), .v (.d (.list (strL ns))), .no]) b (by omega) (by decide) rfl rfl
    have b1 := dn_bd (m := 2) (by decide) b
    have t1 : tru (Ev (k + (n + 1)) (.cmp .Eq (.call 23 [.var 0, .cst (.int 2)]) (.cst (.int 0))) [.v (.ref hp.length), .v (.d (Pl.enc (.st i))), .v (.d (.list (strL ns))), .no] (hp ++ [ob s])) = .ok (decide (dv s 2 = 0)) (hp ++ [ob (dn s 2)]) := t_cmp c1 rfl (cmp_eq.trans eq_int)
    by_cases z : dv s 2 = 0
    · rw [decide_eq_true z] at t1
      have el : Ev (k + (n + 1)) (.bi .len [.var 2]) [.v (.ref hp.length), .v (.d (Pl.enc (.st i))), .v (.d (.list (strL ns))), .no] (hp ++ [ob (dn s 2)]) = .ok (.d (.int (ns.length : Int))) (hp ++ [ob (dn s 2)]) := e_bi (es_cons rfl es_nil) rfl (by show some (PyData.int ((strL ns).length : Nat)) = _; rw [strL_len])
      have c2 := e_draw (hp := hp) (K := k + n) (m := (ns.length : Int)) (e := .bi .len [.var 2]) (env := [.v (.ref hp.length), .v (.d (Pl.enc (.st i))), .v (.d (.list (strL ns))), .no]) b1 (by omega) hl rfl el
      have d2 := dv_rg (s := dn s 2) (m := (ns.length : Int)) hl.1
      have b2 := dn_bd (m := (ns.length : Int)) hl.1 b1
      obtain ⟨l, nl, il⟩ := names_at hn d2.1 d2.2
      refine ⟨.us l, dn (dn s 2) (ns.length : Int), ?_, ⟨by rw [JW]; exact nl, by rw [jn, Pl.jn], by rw [js, Pl.js]; decide⟩, b2.mono (by rw [Pl.jn]; omega)⟩
      rw [show k + (n + 1) + 1 = (k + (n + 1)) + 1 from rfl, Cl, call_at φn37 rfl]
      refine fin_end (s_ifT t0 (s_ret ((e_ite t1).trans ((if_pos rfl).trans ?_))))
      rw [enc]
      exact e_tup (es_cons rfl (es_cons (e_ix (x := .list (strL ns)) rfl c2 il) es_nil)) rfl (Nat.le_of_ble_eq_true rfl)
    · rw [decide_eq_false z] at t1
      refine ⟨.st i, dn s 2, ?_, ⟨by rw [JW]; exact h, by rw [jn, Pl.jn], by rw [js, Pl.js]; exact Int.le_refl _⟩, b1.mono (by rw [Pl.jn]; omega)⟩
      rw [show k + (n + 1) + 1 = (k + (n + 1)) + 1 from rfl, Cl, call_at φn37 rfl]
      refine fin_end (s_ifT t0 (s_ret ((e_ite t1).trans ((if_neg Bool.false_ne_true).trans ?_))))
      rw [enc, Pl.enc]
      rfl
  | n + 1, .gr w ps, k, N, s, h, l4, b, hN => by
    rw [Pl.JW] at h
    rw [Pl.jn] at hN l4
    have zz := SZ_eq
    have t0 : tru (Ev (k + (n + 1)) (.isi (.var 1) [.int]) [.v (.ref hp.length), .v (.d (Pl.enc (.gr w ps))), .v (.d (.list (strL ns))), .no] (hp ++ [ob s])) = .ok false (hp ++ [ob s]) := t_isi rfl (by rw [Pl.enc]; rfl)
    have first : Ev (k + (n + 1)) (.ix (.var 1) (.cst (.int 0))) [.v (.ref hp.length), .v (.d (Pl.enc (.gr w ps))), .v (.d (.list (strL ns))), .no] (hp ++ [ob s]) = .ok (.d (.str w)) (hp ++ [ob s]) := e_ix rfl rfl (by rw [Pl.enc]; exact ix_0)
    have second : Ev (k + (n + 1)) (.ix (.var 1) (.cst (.int 1))) [.v (.ref hp.length), .v (.d (Pl.enc (.gr w ps))), .v (.d (.list (strL ns))), .no] (hp ++ [ob s]) = .ok (.d (.tuple (Pl.encs ps))) (hp ++ [ob s]) := e_ix rfl rfl (by rw [Pl.enc]; exact ix_1)
    obtain ⟨es, s', q, de, b'⟩ := parts37 (hp := hp) (K := k + (n + 1)) (n := n) (ns := ns) (d := Pl.enc (.gr w ps)) ps N s b (by omega) fun p m N s b hN' => by
      have := Pl.jn_mem m
      exact pn37 hn ln n p k N s (h.2.2 p m) (by omega) b hN'
    have tG := t_cmp first (e_tup (es := [.cst (.str "seq"), .cst (.str "par")]) (es_cons rfl (es_cons rfl es_nil)) rfl (Nat.le_of_ble_eq_true rfl)) in_G2
    refine ⟨.gr w es, s', ?_, ⟨by rw [JW]; exact ⟨h.1, by rw [de.l]; exact h.2.1, de.w⟩, by rw [jn, Pl.jn, de.n], by rw [js, Pl.js]; exact de.s⟩, b'.mono (by rw [Pl.jn]; omega)⟩
    rw [show k + (n + 1) + 1 = (k + (n + 1)) + 1 from rfl, Cl, call_at φn37 rfl]
    refine fin_end ((s_ifF t0).trans (s_ifT (tG.trans (by rw [decide_eq_true h.1])) (s_ret ?_)))
    rw [enc]
    exact e_tup (es_cons first (es_cons (e_bi (es_cons (e_ofL (l_compI (es_cons second es_nil) rfl (by rw [List.length_map, Pl.encs_len]; have := h.2.1; omega) q)) es_nil) rfl rfl) es_nil)) rfl (Nat.le_of_ble_eq_true rfl)
  | n + 1, .ml w c j, k, N, s, h, l4, b, hN => by
    rw [Pl.JW] at h
    rw [Pl.jn] at hN l4
    have t0 : tru (Ev (k + (n + 1)) (.isi (.var 1) [.int]) [.v (.ref hp.length), .v (.d (Pl.enc (.ml w c j))), .v (.d (.list (strL ns))), .no] (hp ++ [ob s])) = .ok false (hp ++ [ob s]) := t_isi rfl (by rw [Pl.enc]; rfl)
    have first : Ev (k + (n + 1)) (.ix (.var 1) (.cst (.int 0))) [.v (.ref hp.length), .v (.d (Pl.enc (.ml w c j))), .v (.d (.list (strL ns))), .no] (hp ++ [ob s]) = .ok (.d (.str w)) (hp ++ [ob s]) := e_ix rfl rfl (by rw [Pl.enc]; exact ix_0)
    have second : Ev (k + (n + 1)) (.ix (.var 1) (.cst (.int 1))) [.v (.ref hp.length), .v (.d (Pl.enc (.ml w c j))), .v (.d (.list (strL ns))), .no] (hp ++ [ob s]) = .ok (.d (.int c)) (hp ++ [ob s]) := e_ix rfl rfl (by rw [Pl.enc]; exact ix_1)
    have third : Ev (k + (n + 1)) (.ix (.var 1) (.cst (.int 2))) [.v (.ref hp.length), .v (.d (Pl.enc (.ml w c j))), .v (.d (.list (strL ns))), .no] (hp ++ [ob s]) = .ok (.d (Pl.enc j)) (hp ++ [ob s]) := e_ix rfl rfl (by rw [Pl.enc]; exact ix_2)
    obtain ⟨j', s', q, dj, b'⟩ := pn37 hn ln n j k N s h.2.2 (by omega) b (by omega)
    have tG := t_cmp first (e_tup (es := [.cst (.str "seq"), .cst (.str "par")]) (es_cons rfl (es_cons rfl es_nil)) rfl (Nat.le_of_ble_eq_true rfl)) in_G2
    refine ⟨.ml w c j', s', ?_, ⟨by rw [JW]; exact ⟨h.1, h.2.1, dj.w⟩, by rw [jn, Pl.jn, dj.n], ?_⟩, b'.mono (by rw [Pl.jn]; omega)⟩
    · rw [show k + (n + 1) + 1 = (k + (n + 1)) + 1 from rfl, Cl, call_at φn37 rfl]
      refine fin_end ((s_ifF t0).trans ((s_ifF (tG.trans (by rw [decide_eq_false (isM_not h.1)]))).trans (s_ret ?_)))
      rw [enc]
      exact e_tup (es_cons first (es_cons second (es_cons ((e_call (es_cons rfl (es_cons third (es_cons rfl es_nil)))).trans q) es_nil))) rfl (Nat.le_of_ble_eq_true rfl)
    · rw [js, Pl.js]
      exact Int.mul_le_mul_of_nonneg_left dj.s (by split <;> omega)
end Tx
namespace Tx
open PySem Mi Pl
/-! ### the written texts -/
theorem φ32 : ΦT ds 40 = some f40 := rfl
theorem mul_sx {l : List Nat} {n : Nat} (h : l.length ≤ 1000 ∧ n ≤ 10000) : binD .Mult (.str (sx l)) (.int (n : Int)) = some (.str (sx (List.replicate n l).flatten)) := by
  show (if 0 ≤ (n : Int) ∧ (n : Int) ≤ 10000 ∧ (sx l).length ≤ 1000 then some (PyData.str (repS (n : Int).toNat (sx l))) else none) = _
  rw [sx_len, if_pos ⟨by omega, by omega, h.1⟩, Int.toNat_natCast]
  rfl
theorem flat_len {l : List Nat} : ∀ n : Nat, ((List.replicate n l).flatten).length = n * l.length
  | 0 => by rw [Nat.zero_mul]; rfl
  | n + 1 => by rw [List.replicate_succ, List.flatten_cons, List.length_append, flat_len n, Nat.succ_mul]; omega
theorem flat_cnt {l : List Nat} {c : Nat} : ∀ n : Nat, ((List.replicate n l).flatten).count c = n * l.count c
  | 0 => by rw [Nat.zero_mul]; rfl
  | n + 1 => by rw [List.replicate_succ, List.flatten_cons, List.count_append, flat_cnt n, Nat.succ_mul]; omega
/-- never more than n open, at the end at most g -/
def Bq (n g : Nat) (l : List Nat) : Prop := B n l ∧ l.count 40 ≤ l.count 41 + g
theorem Bq.mono {n g n' g' : Nat} {l : List Nat} (b : Bq n g l) (h : n ≤ n') (k : g ≤ g') : Bq n' g' l := ⟨b.1.mono h, by have := b.2; omega⟩
theorem Bq.app {n g n' g' : Nat} {a b : List Nat} (p : Bq n g a) (q : Bq n' g' b) : Bq (max n (g + n')) (g + g') (a ++ b) := by
  refine ⟨B.cat (p.1.mono (Nat.le_max_left _ _)) fun x r e => ?_, ?_⟩
  · have h1 := q.1 x r e
    have h2 := p.2
    have h3 := Nat.le_max_right n (g + n')
    omega
  · have h1 := p.2
    have h2 := q.2
    rw [List.count_append, List.count_append]
    omega
theorem Bq.nil : Bq 0 0 [] := ⟨B.free rfl, Nat.le_refl _⟩
theorem Bq.rep {n g : Nat} {l : List Nat} (p : Bq n g l) : ∀ k : Nat, Bq (k * g + n) (k * g) (List.replicate k l).flatten
  | 0 => Bq.nil.mono (Nat.zero_le _) (Nat.zero_le _)
  | k + 1 => by
    rw [List.replicate_succ, List.flatten_cons, Nat.succ_mul]
    refine (p.app (Bq.rep p k)).mono (Nat.max_le.mpr ⟨by omega, by omega⟩) (by omega)
theorem Bq.cst (l : List Nat) : Bq (l.count 40) (l.count 40) l := ⟨B.few (Nat.le_refl _), by omega⟩
theorem Bq.bal {l : List Nat} (h : decide (l.count 40 ≤ l.count 41) = true) : Bq (l.count 40) 0 l := ⟨B.few (Nat.le_refl _), of_decide_eq_true h⟩
section
variable {h : Sh} {k : Nat} {env : En}
def TX (k : Nat) (e : Te) (env : En) (h : Sh) (n g m : Nat) : Prop := ∃ l : List Nat, Ev k e env h = .ok (.d (.str (sx l))) h ∧ l.length ≤ m ∧ Bq n g l
theorem tx_cst {s : Str} : TX k (.cst (.str s)) env h ((sg s).count 40) ((sg s).count 40) (sg s).length := ⟨sg s, by rw [sx_sg]; rfl, Nat.le_refl _, Bq.cst _⟩
theorem tx_bal {s : Str} (b : decide ((sg s).count 40 ≤ (sg s).count 41) = true) : TX k (.cst (.str s)) env h ((sg s).count 40) 0 (sg s).length := ⟨sg s, by rw [sx_sg]; rfl, Nat.le_refl _, Bq.bal b⟩
theorem tx_add {a b : Te} {c g m d g' n : Nat} (p : TX k a env h c g m) (q : TX k b env h d g' n) (l : m + n ≤ 100000) : TX k (.bin .Add a b) env h (max c (g + d)) (g + g') (m + n) := by
  obtain ⟨x, ex, lx, cx⟩ := p
  obtain ⟨y, ey, ly, cy⟩ := q
  have zz := SZ_eq
  exact ⟨x ++ y, e_bin ex ey (add_sx (by omega)), by rw [List.length_append]; omega, cx.app cy⟩
theorem tx_mul {a : Te} {c g m n : Nat} (p : TX k a env h c g m) (l : m ≤ 1000 ∧ n ≤ 10000) : TX k (.bin .Mult a (.cst (.int (OfNat.ofNat n)))) env h (n * g + c) (n * g) (n * m) := by
  obtain ⟨x, ex, lx, cx⟩ := p
  refine ⟨_, e_bin ex rfl (mul_sx (n := n) ⟨by omega, l.2⟩), ?_, cx.rep n⟩
  rw [flat_len]; exact Nat.mul_le_mul_left _ lx
theorem ev_var {i : Nat} {x : Vl} (e : env[i]? = some (.v x)) : Ev k (.var i) env h = .ok x h := e_var e
theorem Bq.sep : Bq 0 0 [44, 32] := ⟨B.free (by decide), by decide⟩
theorem tx_row6 {r : List Nat} (he : env[1]? = some (.v (.d (.str (sx r))))) (h1 : r.length ≤ 600) (h2 : Bq 5 2 r) : TX k (.me .join (.cst (.str ", ")) [.bin .Mult (.ofL (.disp [.var 1])) (.cst (.int 6))]) env h 30 20 5000 := by
  have zz := SZ_eq
  have q : Ev k (.bin .Mult (.ofL (.disp [.var 1])) (.cst (.int 6))) env h = .ok (.d (.list (strL [r, r, r, r, r, r]))) h := e_bin (e_disp (es_cons (ev_var he) es_nil) rfl (Nat.le_of_ble_eq_true rfl)) rfl rfl
  have c : Ev k (.cst (.str ", ")) env h = .ok (.d (.str (sx [44, 32]))) h := by rw [← c_cm]; rfl
  refine ⟨_, e_me (m := .join) c (es_cons q es_nil) rfl (join_sx ?_), ?_, ?_⟩
  · simp only [List.map_cons, List.map_nil, List.sum_cons, List.sum_nil, List.length_cons, List.length_nil]; omega
  · simp only [TL.joinL, List.length_append, List.length_cons, List.length_nil]; omega
  · exact (h2.app (Bq.sep.app (h2.app (Bq.sep.app (h2.app (Bq.sep.app (h2.app (Bq.sep.app (h2.app (Bq.sep.app h2)))))))))).mono (by decide) (by decide)
theorem tx_row7 {r : List Nat} (he : env[1]? = some (.v (.d (.str (sx r))))) (h1 : r.length ≤ 600) (h2 : Bq 5 2 r) : TX k (.me .join (.cst (.str ", ")) [.bin .Mult (.ofL (.disp [.var 1])) (.cst (.int 7))]) env h 30 20 5000 := by
  have zz := SZ_eq
  have q : Ev k (.bin .Mult (.ofL (.disp [.var 1])) (.cst (.int 7))) env h = .ok (.d (.list (strL [r, r, r, r, r, r, r]))) h := e_bin (e_disp (es_cons (ev_var he) es_nil) rfl (Nat.le_of_ble_eq_true rfl)) rfl rfl
  have c : Ev k (.cst (.str ", ")) env h = .ok (.d (.str (sx [44, 32]))) h := by rw [← c_cm]; rfl
  refine ⟨_, e_me (m := .join) c (es_cons q es_nil) rfl (join_sx ?_), ?_, ?_⟩
  · simp only [List.map_cons, List.map_nil, List.sum_cons, List.sum_nil, List.length_cons, List.length_nil]; omega
  · simp only [TL.joinL, List.length_append, List.length_cons, List.length_nil]; omega
  · exact (h2.app (Bq.sep.app (h2.app (Bq.sep.app (h2.app (Bq.sep.app (h2.app (Bq.sep.app (h2.app (Bq.sep.app (h2.app (Bq.sep.app h2)))))))))))).mono (by decide) (by decide)
def AX (ts : List (List Nat)) : Prop := ∀ t ∈ ts, t.length ≤ 35000 ∧ B 100 t
theorem AX.app {a b : List (List Nat)} (p : AX a) (q : AX b) : AX (a ++ b) := fun t m => (List.mem_append.mp m).elim (p t) (q t)
def LX (k : Nat) (es : List Te) (env : En) (h : Sh) : Prop := ∃ ts : List (List Nat), evEs (Cf k) (GT gs) es env h = .ok ((strL ts).map .d) h ∧ ts.length = es.length ∧ AX ts
theorem lx_nil : LX k [] env h := ⟨[], es_nil, rfl, fun t m => by cases m⟩
theorem lx_cons {e : Te} {es : List Te} {c g m : Nat} (p : TX k e env h c g m) (hc : c ≤ 100) (hm : m ≤ 35000) (q : LX k es env h) : LX k (e :: es) env h := by
  obtain ⟨x, ex, lx, cx⟩ := p
  obtain ⟨ts, et, lt, at'⟩ := q
  refine ⟨x :: ts, es_cons ex et, by rw [List.length_cons, List.length_cons, lt], fun t m => ?_⟩
  rcases List.mem_cons.mp m with rfl | m
  · exact ⟨by omega, cx.1.mono hc⟩
  · exact at' t m
theorem datL_map : ∀ xs : List PyData, datL (xs.map .d) = some xs
  | [] => rfl
  | x :: xs => by
    show (datL (xs.map .d)).map (x :: ·) = _
    rw [datL_map xs]
    rfl
def Fin (k : Nat) (b : List Ts) (env : En) (h : Sh) : Prop := ∃ vs, evSs (Cf k) (GT gs) 50000 b env h = .ok (.rt (.d (.list (strL vs)))) h ∧ AX vs ∧ vs.length ≤ 200000
theorem Fin.step {b b' : List Ts} {e e' : En} (q : evSs (Cf k) (GT gs) 50000 b e h = evSs (Cf k) (GT gs) 50000 b' e' h) (f : Fin k b' e' h) : Fin k b e h := by
  obtain ⟨vs, e1, a⟩ := f
  exact ⟨vs, q.trans e1, a⟩
theorem lx_ofL {es : List Te} {ts : List (List Nat)} (e : evEs (Cf k) (GT gs) es env h = .ok ((strL ts).map .d) h) (l : ts.length ≤ 100) : Ev k (.ofL (.disp es)) env h = .ok (.d (.list (strL ts))) h := by
  have zz := SZ_eq
  exact e_ofL (l_disp e (datL_map _) (by rw [strL_len]; omega))
theorem st_disp {es : List Te} {rest : List Ts} {s0 s1 : Sl} (lx : LX k es [s0, s1] h) (le : es.length ≤ 100) (f : ∀ us, AX us → us.length ≤ 100 → Fin k rest [.v (.d (.list (strL us))), s1] h) : Fin k (.asg (.n 0) (.ofL (.disp es)) :: rest) [s0, s1] h := by
  obtain ⟨us, e, l, a⟩ := lx
  exact (f us a (by omega)).step (s_asg (lx_ofL e (by omega)) rfl)
theorem add_L {a b : List (List Nat)} (h : a.length + b.length ≤ 1000000) : binD .Add (.list (strL a)) (.list (strL b)) = some (.list (strL (a ++ b))) := by
  have zz := SZ_eq
  show (if (strL a).length + (strL b).length ≤ SZ then some (PyData.list (strL a ++ strL b)) else none) = _
  rw [strL_len, strL_len, if_pos (by omega), strL_app]
theorem st_cat {es : List Te} {rest : List Ts} {s1 : Sl} {ts : List (List Nat)} {N : Nat} (a : AX ts) (n : ts.length ≤ N) (hN : N ≤ 100000) (lx : LX k es [.v (.d (.list (strL ts))), s1] h) (le : es.length ≤ 100) (f : ∀ us, AX us → us.length ≤ N + 100 → Fin k rest [.v (.d (.list (strL us))), s1] h) :
    Fin k (.asg (.n 0) (.bin .Add (.var 0) (.ofL (.disp es))) :: rest) [.v (.d (.list (strL ts))), s1] h := by
  obtain ⟨us, e, l, b⟩ := lx
  exact (f (ts ++ us) (a.app b) (by rw [List.length_append]; omega)).step (s_asg (e_bin rfl (lx_ofL e (by omega)) (add_L (by omega))) rfl)
theorem st_row {e : Te} {rest : List Ts} {s0 s1 : Sl} {c g m : Nat} (p : TX k e [s0, s1] h c g m) (hc : c ≤ 5) (hg : g ≤ 2) (hm : m ≤ 600) (f : ∀ r : List Nat, r.length ≤ 600 → Bq 5 2 r → Fin k rest [s0, .v (.d (.str (sx r)))] h) :
    Fin k (.asg (.n 1) e :: rest) [s0, s1] h := by
  obtain ⟨x, ex, lx, cx⟩ := p
  exact (f x (by omega) (cx.mono hc hg)).step (s_asg ex rfl)
theorem st_ret {es : List Te} {rest : List Ts} {s1 : Sl} {ts : List (List Nat)} {N : Nat} (a : AX ts) (n : ts.length ≤ N) (hN : N ≤ 100000) (lx : LX k es [.v (.d (.list (strL ts))), s1] h) (le : es.length ≤ 100) :
    Fin k (.ret (.bin .Add (.var 0) (.ofL (.disp es))) :: rest) [.v (.d (.list (strL ts))), s1] h := by
  obtain ⟨us, e, l, b⟩ := lx
  exact ⟨ts ++ us, s_ret (e_bin rfl (lx_ofL e (by omega)) (add_L (by omega))), a.app b, by rw [List.length_append]; omega⟩
theorem p32 {k : Nat} {h : Sh} : ∃ ts : List (List Nat), Cl (k + 1) 40 [] h = .ok (.d (.list (strL ts))) h ∧ AX ts ∧ ts.length ≤ 200000 := by
  have f : Fin k f40.body [.no, .no] h :=
    st_disp (lx_cons (tx_bal rfl) (Nat.le_of_ble_eq_true rfl) (Nat.le_of_ble_eq_true rfl) (lx_cons (tx_bal rfl) (Nat.le_of_ble_eq_true rfl) (Nat.le_of_ble_eq_true rfl) (lx_cons (tx_bal rfl) (Nat.le_of_ble_eq_true rfl) (Nat.le_of_ble_eq_true rfl) (lx_cons (tx_bal rfl) (Nat.le_of_ble_eq_true rfl) (Nat.le_of_ble_eq_true rfl) (lx_cons (tx_bal rfl) (Nat.le_of_ble_eq_true rfl) (Nat.le_of_ble_eq_true rfl) (lx_cons tx_cst (Nat.le_of_ble_eq_true rfl) (Nat.le_of_ble_eq_true rfl) (lx_cons (tx_bal rfl) (Nat.le_of_ble_eq_true rfl) (Nat.le_of_ble_eq_true rfl) (lx_cons (tx_bal rfl) (Nat.le_of_ble_eq_true rfl) (Nat.le_of_ble_eq_true rfl) (lx_cons (tx_bal rfl) (Nat.le_of_ble_eq_true rfl) (Nat.le_of_ble_eq_true rfl) lx_nil))))))))) (Nat.le_of_ble_eq_true rfl) fun t0 a0 n0 => 
    st_cat a0 n0 (Nat.le_of_ble_eq_true rfl) (lx_cons (tx_bal rfl) (Nat.le_of_ble_eq_true rfl) (Nat.le_of_ble_eq_true rfl) (lx_cons (tx_bal rfl) (Nat.le_of_ble_eq_true rfl) (Nat.le_of_ble_eq_true rfl) (lx_cons (tx_bal rfl) (Nat.le_of_ble_eq_true rfl) (Nat.le_of_ble_eq_true rfl) (lx_cons (tx_bal rfl) (Nat.le_of_ble_eq_true rfl) (Nat.le_of_ble_eq_true rfl) (lx_cons (tx_bal rfl) (Nat.le_of_ble_eq_true rfl) (Nat.le_of_ble_eq_true rfl) (lx_cons (tx_bal rfl) (Nat.le_of_ble_eq_true rfl) (Nat.le_of_ble_eq_true rfl) lx_nil)))))) (Nat.le_of_ble_eq_true rfl) fun t1 a1 n1 => 
    st_cat a1 n1 (Nat.le_of_ble_eq_true rfl) (lx_cons (tx_bal rfl) (Nat.le_of_ble_eq_true rfl) (Nat.le_of_ble_eq_true rfl) (lx_cons (tx_bal rfl) (Nat.le_of_ble_eq_true rfl) (Nat.le_of_ble_eq_true rfl) lx_nil)) (Nat.le_of_ble_eq_true rfl) fun t2 a2 n2 => 
    st_cat a2 n2 (Nat.le_of_ble_eq_true rfl) (lx_cons (tx_bal rfl) (Nat.le_of_ble_eq_true rfl) (Nat.le_of_ble_eq_true rfl) (lx_cons (tx_bal rfl) (Nat.le_of_ble_eq_true rfl) (Nat.le_of_ble_eq_true rfl) (lx_cons (tx_bal rfl) (Nat.le_of_ble_eq_true rfl) (Nat.le_of_ble_eq_true rfl) (lx_cons (tx_bal rfl) (Nat.le_of_ble_eq_true rfl) (Nat.le_of_ble_eq_true rfl) (lx_cons (tx_bal rfl) (Nat.le_of_ble_eq_true rfl) (Nat.le_of_ble_eq_true rfl) (lx_cons (tx_bal rfl) (Nat.le_of_ble_eq_true rfl) (Nat.le_of_ble_eq_true rfl) (lx_cons (tx_mul (n := 5000) (tx_bal rfl) (by decide +kernel)) (Nat.le_of_ble_eq_true rfl) (Nat.le_of_ble_eq_true rfl) lx_nil))))))) (Nat.le_of_ble_eq_true rfl) fun t3 a3 n3 => 
    st_row (tx_add (tx_add tx_cst (tx_mul (n := 59) (tx_bal rfl) (by decide +kernel)) (Nat.le_of_ble_eq_true rfl)) (tx_bal rfl) (Nat.le_of_ble_eq_true rfl)) (Nat.le_of_ble_eq_true rfl) (Nat.le_of_ble_eq_true rfl) (Nat.le_of_ble_eq_true rfl) fun r r1 r2 => 
    st_cat a3 n3 (Nat.le_of_ble_eq_true rfl) (lx_cons (tx_add (tx_add tx_cst (tx_row6 rfl r1 r2) (Nat.le_of_ble_eq_true rfl)) (tx_bal rfl) (Nat.le_of_ble_eq_true rfl)) (Nat.le_of_ble_eq_true rfl) (Nat.le_of_ble_eq_true rfl) (lx_cons (tx_add (tx_add tx_cst (tx_row7 rfl r1 r2) (Nat.le_of_ble_eq_true rfl)) (tx_bal rfl) (Nat.le_of_ble_eq_true rfl)) (Nat.le_of_ble_eq_true rfl) (Nat.le_of_ble_eq_true rfl) lx_nil)) (Nat.le_of_ble_eq_true rfl) fun t4 a4 n4 => 
    st_cat a4 n4 (Nat.le_of_ble_eq_true rfl) (lx_cons (tx_add (tx_add tx_cst (tx_mul (n := 30) (tx_bal rfl) (by decide +kernel)) (Nat.le_of_ble_eq_true rfl)) (tx_bal rfl) (Nat.le_of_ble_eq_true rfl)) (Nat.le_of_ble_eq_true rfl) (Nat.le_of_ble_eq_true rfl) (lx_cons (tx_add (tx_add tx_cst (tx_mul (n := 29) (tx_bal rfl) (by decide +kernel)) (Nat.le_of_ble_eq_true rfl)) (tx_bal rfl) (Nat.le_of_ble_eq_true rfl)) (Nat.le_of_ble_eq_true rfl) (Nat.le_of_ble_eq_true rfl) lx_nil)) (Nat.le_of_ble_eq_true rfl) fun t5 a5 n5 => 
    st_ret a5 n5 (Nat.le_of_ble_eq_true rfl) (lx_cons (tx_add (tx_add (tx_mul (n := 12) tx_cst (by decide +kernel)) (tx_bal rfl) (Nat.le_of_ble_eq_true rfl)) (tx_mul (n := 12) (tx_bal rfl) (by decide +kernel)) (Nat.le_of_ble_eq_true rfl)) (Nat.le_of_ble_eq_true rfl) (Nat.le_of_ble_eq_true rfl) (lx_cons (tx_add (tx_add (tx_mul (n := 13) tx_cst (by decide +kernel)) (tx_bal rfl) (Nat.le_of_ble_eq_true rfl)) (tx_mul (n := 13) (tx_bal rfl) (by decide +kernel)) (Nat.le_of_ble_eq_true rfl)) (Nat.le_of_ble_eq_true rfl) (Nat.le_of_ble_eq_true rfl) lx_nil)) (Nat.le_of_ble_eq_true rfl)
  obtain ⟨vs, e, a⟩ := f
  refine ⟨vs, ?_, a⟩
  rw [Cl, call_at φ32 rfl]
  exact fin_end e
end
end Tx
namespace Tx
open PySem Mi Pl
variable {hp : Sh}
theorem φ33 : ΦT ds 41 = some f41 := rfl
/-! ### showing the text of a job -/
theorem num_small (i : Int) : ∀ x ∈ numI i, x < 16 ^ 8 := fun x m => by
  have d := TL.numL_digits i.natAbs
  unfold numI at m
  split at m
  · rcases List.mem_cons.mp m with rfl | m
    · decide
    · have := d x m; omega
  · have := d x m; omega
theorem w_small {w : Str} (h : isG w ∨ isM w) : ∀ x ∈ sg w, x < 16 ^ 8 := by
  rcases h with (rfl | rfl) | (rfl | rfl) <;> decide +kernel
theorem us_small : ∀ x ∈ sg "use", x < 16 ^ 8 := by decide +kernel
mutual
theorem wl_small : ∀ (n : Nat) (j : Jb), JW n j → ∀ x ∈ wl j, x < 16 ^ 8
  | 0, j, h => by rw [JW] at h; exact h.elim
  | n + 1, .st i, h => by rw [wl]; exact num_small i
  | n + 1, .us l, h => by
    rw [JW] at h
    rw [wl]
    intro x m
    rcases List.mem_append.mp m with m | m
    · exact us_small x m
    · rcases List.mem_cons.mp m with rfl | m
      · decide
      · rcases List.mem_append.mp m with m | m
        · have := nm_let h x m
          have : (16 : Nat) ^ 8 = 4294967296 := by decide
          omega
        · rcases List.mem_cons.mp m with rfl | m
          · decide
          · cases m
  | n + 1, .gr w ps, h => by
    rw [JW] at h
    rw [wl]
    intro x m
    rcases List.mem_append.mp m with m | m
    · exact w_small (.inl h.1) x m
    · rcases List.mem_cons.mp m with rfl | m
      · decide
      · rcases List.mem_append.mp m with m | m
        · exact wls_small n ps h.2.2 x m
        · rcases List.mem_cons.mp m with rfl | m
          · decide
          · cases m
  | n + 1, .ml w c j, h => by
    rw [JW] at h
    rw [wl]
    intro x m
    rcases List.mem_append.mp m with m | m
    · exact w_small (.inr h.1) x m
    · rcases List.mem_cons.mp m with rfl | m
      · decide
      · rcases List.mem_append.mp m with m | m
        · exact num_small c x m
        · rcases List.mem_cons.mp m with rfl | m
          · decide
          · rcases List.mem_cons.mp m with rfl | m
            · decide
            · rcases List.mem_append.mp m with m | m
              · exact wl_small n j h.2.2 x m
              · rcases List.mem_cons.mp m with rfl | m
                · decide
                · cases m
theorem wls_small : ∀ (n : Nat) (ps : List Jb), (∀ p ∈ ps, JW n p) → ∀ x ∈ TL.joinL [44, 32] (wls ps), x < 16 ^ 8
  | n, [], _ => fun x m => by rw [wls] at m; cases m
  | n, p :: ps, h => by
    have a := wl_small n p (h p List.mem_cons_self)
    have b := wls_small n ps fun q m => h q (List.mem_cons_of_mem _ m)
    intro x m
    cases ps with
    | nil =>
      rw [wls, wls] at m
      exact a x m
    | cons q r =>
      rw [wls, wls] at m
      rw [wls] at b
      change x ∈ wl p ++ ([44, 32] ++ TL.joinL [44, 32] (wl q :: wls r)) at m
      rcases List.mem_append.mp m with m | m
      · exact a x m
      · rcases List.mem_append.mp m with m | m
        · simp only [List.mem_cons, List.not_mem_nil, or_false] at m
          rcases m with rfl | rfl <;> decide
        · exact b x m
end
theorem show_sx {l : List Nat} (h : ∀ x ∈ l, x < 16 ^ 8) (n : l.length ≤ 1000000) : showOk (.str (sx l)) = true := by
  have q := PySem.StrLaws.reprText_len (sx l) h
  rw [sx_len] at q
  refine (fit_strB (n := 0) q).ok ?_ (by decide)
  rw [SZ_eq]; omega
theorem c_ua : ("use(a)" : Str) = sx [117, 115, 101, 40, 97, 41] := by decide +kernel
theorem seq_no {n : Nat} {m : List Nat} (hn : 14 ≤ n) : ¬ ∃ j, GJ j ∧ wl j = (List.replicate n (sg "seq(")).flatten ++ m := by
  rintro ⟨j, g, e⟩
  have b := (B_wl 13 j g.1).1
  obtain ⟨k, rfl⟩ : ∃ k, n = 14 + k := ⟨n - 14, by omega⟩
  have q := b ((List.replicate 14 (sg "seq(")).flatten) ((List.replicate k (sg "seq(")).flatten ++ m) (by
    have z : (List.replicate 14 (sg "seq(")).flatten ++ (List.replicate k (sg "seq(")).flatten = (List.replicate (14 + k) (sg "seq(")).flatten := by rw [← List.flatten_append, List.replicate_append_replicate]
    rw [e, ← List.append_assoc, z])
  rw [flat_cnt, flat_cnt] at q
  exact absurd q (by decide +kernel)
/-! ### one turn -/
abbrev En41 (ns : List Int) (L : Nat) (s1 s3 s4 s5 s6 s7 s8 : Sl) : En := [.v (.scr ns), s1, .v (.ref L), s3, s4, s5, s6, s7, s8]
def bodyB : List Ts := [.iff (.not (.call 39 [.call 36 [.var 2, .var 6]])) [.ret (.cst (.bool false))] []]
theorem loopB {ns : List Int} {t : List Nat} {s1 s3 s4 s5 s7 : Sl} (ht : t.length ≤ 34000) (bt : B 13 t) : ∀ (r : Nat) (lo : Int) (N : Nat) (s : S3) (s8 : Sl), Bd N s → N + 3 * r ≤ 800000 →
    ∃ t8 s', forLoop (evSs (Cf 214) (GT gs) 50000 bodyB) (.n 8) (rng lo r) (En41 ns hp.length s1 s3 s4 s5 (.v (.d (.str (sx t)))) s7 s8) (hp ++ [ob s]) = .ok (.nx (En41 ns hp.length s1 s3 s4 s5 (.v (.d (.str (sx t)))) s7 t8)) (hp ++ [ob s']) ∧ Bd (N + 3 * r) s'
  | 0, lo, N, s, s8, b, _ => ⟨s8, s, fl_nil, b⟩
  | r + 1, lo, N, s, s8, b, hN => by
    obtain ⟨t', s1', q, l', b', d'⟩ := p29 (hp := hp) (k := 212) ht bt b (by omega)
    have c29 : evE (Cf 214) (GT gs) (.call 36 [.var 2, .var 6]) (En41 ns hp.length s1 s3 s4 s5 (.v (.d (.str (sx t)))) s7 (.v (.d (.int lo)))) (hp ++ [ob s]) = .ok (.d (.str (sx t'))) (hp ++ [ob s1']) := (e_call (es_cons rfl (es_cons rfl es_nil))).trans q
    have c31 := p31 (h := hp ++ [ob s1']) (k := 10) (t := t') (by omega) (b'.mono (by decide))
    have c : tru (evE (Cf 214) (GT gs) (.not (.call 39 [.call 36 [.var 2, .var 6]])) (En41 ns hp.length s1 s3 s4 s5 (.v (.d (.str (sx t)))) s7 (.v (.d (.int lo)))) (hp ++ [ob s])) = .ok false (hp ++ [ob s1']) := t_nF (t_b ((e_call (es_cons c29 es_nil)).trans c31))
    obtain ⟨t8, s', q2, d2⟩ := loopB (ns := ns) (s1 := s1) (s3 := s3) (s4 := s4) (s5 := s5) (s7 := s7) ht bt r (lo + 1) (N + 3) s1' (.v (.d (.int lo))) d' (by omega)
    exact ⟨t8, s', fl_next rfl ((s_ifF c).trans ss_nil) q2, d2.mono (by omega)⟩
theorem US.G {j : Pl.Jb} {d : Jb} (u : US 10 j d) (o : Pl.OKJ j) : GJ d := by
  have := u.n
  have := o.n
  exact ⟨u.w.mono (by decide), by omega, isjob_of u.w (by decide) (by omega) (Int.le_trans u.s o.s)⟩
theorem emb_G {j : Pl.Jb} (o : Pl.OKJ j) : GJ (emb j) := by
  have := o.n
  exact ⟨(JW_emb o.w).mono (by decide), by rw [jn_emb]; omega, isjob_of (JW_emb o.w) (by decide) (by rw [jn_emb]; omega) (by rw [js_emb]; exact o.s)⟩
theorem emb_P {j : Pl.Jb} (o : Pl.OKJ j) : (Pl.meas 13 (enc (emb j))).isSome = true := by
  have := o.n
  rw [enc_emb]
  exact Pl.isjob_of o.w (by decide) (by omega) o.s
theorem eqR {x : Str} : cmpD .NotEq (.str x) (.str x) = some false := cmp_ne.trans (by rw [eq_str, decide_eq_true rfl]; rfl)
def body1 : List Ts := [.asg (.n 2) (.call 22 [.var 0, .var 1]), .asg (.n 3) (.call 28 [.var 2, .bin .Add (.cst (.int 1)) (.call 23 [.var 2, .cst (.int 4)])]), .asg (.n 4) (.call 30 [.var 2, .cst (.int 9), .cst (.int 5)]), .asg (.n 5) (.call 37 [.var 2, .var 4, .var 3]), .asg (.n 6) (.call 31 [.var 5]), .iff (.or [.cmp .NotEq (.bi .repr [.call 20 [.var 5]]) (.bi .repr [.var 6]), .cmp .NotEq (.bi .repr [.call 21 [.var 6]]) (.bi .repr [.var 5])]) [.ret (.cst (.bool false))] [], .asg (.n 7) (.call 18 [.var 4]), .iff (.or [.cmp .NotEq (.bi .repr [.call 20 [.var 4]]) (.bi .repr [.var 7]), .cmp .NotEq (.bi .repr [.call 21 [.var 7]]) (.bi .repr [.call 19 [.var 7]])]) [.ret (.cst (.bool false))] [], .for (.n 8) .range1 [.cst (.int 10)] bodyB]
theorem judge {ns : List Int} {L : Nat} {j : Jb} {p : Jb} {s1 s3 s5 s6 s7 s8 : Sl} {h : Sh} (g : GJ j) (gp : GJ p) (pp : (Pl.meas 13 (enc p)).isSome = true) (ht : (wl j).length ≤ 30000) (htp : (wl p).length ≤ 30000) :
    ∀ r, evSs (Cf 214) (GT gs) 50000 (body1.drop 8) (En41 ns L s1 s3 (.v (.d (enc p))) (.v (.d (enc j))) (.v (.d (.str (sx (wl j))))) (.v (.d (.str (sx (wl p))))) s8) h = r →
    evSs (Cf 214) (GT gs) 50000 (body1.drop 4) (En41 ns L s1 s3 (.v (.d (enc p))) (.v (.d (enc j))) s6 s7 s8) h = r := fun r hr => by
  have so := show_sx (wl_small 13 j g.1) (by omega)
  have sj := show_J g
  have sp := show_sx (wl_small 13 p gp.1) (by omega)
  have sjp := show_J gp
  have c24 : evE (Cf 214) (GT gs) (.call 31 [.var 5]) (En41 ns L s1 s3 (.v (.d (enc p))) (.v (.d (enc j))) s6 s7 s8) h = .ok (.d (.str (sx (wl j)))) h := (e_call rfl).trans (p24 13 j 201 g.1 g.2.1)
  refine (s_asg c24 rfl).trans ?_
  have n1 : tru (evE (Cf 214) (GT gs) (.cmp .NotEq (.bi .repr [.call 20 [.var 5]]) (.bi .repr [.var 6])) (En41 ns L s1 s3 (.v (.d (enc p))) (.v (.d (enc j))) (.v (.d (.str (sx (wl j))))) s7 s8) h) = .ok false h :=
    t_cmp (e_bi (es_cons ((e_call rfl).trans (p20 (k := 174) g)) es_nil) rfl (repr_some so)) (e_bi (es_cons rfl es_nil) rfl (repr_some so)) eqR
  have n2 : tru (evE (Cf 214) (GT gs) (.or [.cmp .NotEq (.bi .repr [.call 21 [.var 6]]) (.bi .repr [.var 5])]) (En41 ns L s1 s3 (.v (.d (enc p))) (.v (.d (enc j))) (.v (.d (.str (sx (wl j))))) s7 s8) h) = .ok false h :=
    t_or1.trans (t_cmp (e_bi (es_cons ((e_call rfl).trans ((p13 (k := 164) (by omega)).1 j g rfl)) es_nil) rfl (repr_some sj)) (e_bi (es_cons rfl es_nil) rfl (repr_some sj)) eqR)
  refine (s_ifF ((t_orF n1).trans n2)).trans ?_
  have c18 : evE (Cf 214) (GT gs) (.call 18 [.var 4]) (En41 ns L s1 s3 (.v (.d (enc p))) (.v (.d (enc j))) (.v (.d (.str (sx (wl j))))) s7 s8) h = .ok (.d (.str (sx (wl p)))) h := (e_call rfl).trans (p12 (k := 174) gp pp)
  refine (s_asg c18 rfl).trans ?_
  have n3 : tru (evE (Cf 214) (GT gs) (.cmp .NotEq (.bi .repr [.call 20 [.var 4]]) (.bi .repr [.var 7])) (En41 ns L s1 s3 (.v (.d (enc p))) (.v (.d (enc j))) (.v (.d (.str (sx (wl j))))) (.v (.d (.str (sx (wl p))))) s8) h) = .ok false h :=
    t_cmp (e_bi (es_cons ((e_call rfl).trans (p20 (k := 174) gp)) es_nil) rfl (repr_some sp)) (e_bi (es_cons rfl es_nil) rfl (repr_some sp)) eqR
  have n4 : tru (evE (Cf 214) (GT gs) (.or [.cmp .NotEq (.bi .repr [.call 21 [.var 7]]) (.bi .repr [.call 19 [.var 7]])]) (En41 ns L s1 s3 (.v (.d (enc p))) (.v (.d (enc j))) (.v (.d (.str (sx (wl j))))) (.v (.d (.str (sx (wl p))))) s8) h) = .ok false h :=
    t_or1.trans (t_cmp (e_bi (es_cons ((e_call rfl).trans ((p13 (k := 164) (by omega)).1 p gp rfl)) es_nil) rfl (repr_some sjp)) (e_bi (es_cons ((e_call rfl).trans (p19 (k := 164) gp pp (by omega))) es_nil) rfl (repr_some sjp)) eqR)
  exact (s_ifF ((t_orF n3).trans n4)).trans hr
theorem turn1 {ns : List Int} {a : Nat} {s2 s3 s4 s5 s6 s7 s8 : Sl} (ha : a < 1000) :
    ∃ L t3 t4 t5 t6 t7 t8 h', evSs (Cf 214) (GT gs) 50000 body1 [.v (.scr ns), .v (.d (.int a)), s2, s3, s4, s5, s6, s7, s8] hp = .ok (.nx (En41 ns L (.v (.d (.int a))) t3 t4 t5 t6 t7 t8)) h' := by
  obtain ⟨s, q, b⟩ := p14 (hp := hp) (k := 213) (ns := ns) ha
  have d4 := dv_rg (s := s) (m := 4) (by decide)
  have c4 := (p15 (hp := hp) (k := 213) (m := 4) b (by decide) (by decide))
  have b1 := dn_bd (m := 4) (by decide) b
  obtain ⟨v, hv⟩ : ∃ v : Nat, dv s 4 = v := ⟨(dv s 4).toNat, by omega⟩
  rw [hv] at c4 d4
  generalize dn s 4 = sa at *
  obtain ⟨nms, sb', q28, hn, ln, b2⟩ := pn28 (hp := hp) (k := 212) (m := 1 + v) b1 (by decide) (by omega)
  have b2' : Bd 100 sb' := b2.mono (by omega)
  obtain ⟨j, sc, q22, o, b3⟩ := Pl.p22 (hp := hp) (k := 203) b2' (by decide)
  have jn' := o.n
  obtain ⟨d, sd, q37, u, b4⟩ := pn37 (hp := hp) hn (by omega) 10 j 203 (100 + 80000) sc o.w (by omega) b3 (by omega)
  rw [← enc_emb] at q22 q37
  have g := u.G o
  have gp := emb_G o
  have pp := emb_P o
  have wn := wl_len 13 d g.1
  have wp := wl_len 13 (emb j) gp.1
  have un := u.n
  rw [jn_emb] at wp
  obtain ⟨t8, se, q5, b5⟩ := loopB (hp := hp) (ns := ns) (t := wl d) (s1 := .v (.d (.int a))) (s3 := .v (.d (.list (strL nms)))) (s4 := .v (.d (enc (emb j)))) (s5 := .v (.d (enc d))) (s7 := .v (.d (.str (sx (wl (emb j)))))) (by omega) (B_wl 13 d g.1).1 10 0 (100 + 80000 + 2 * Pl.jn j) sd s8 b4 (by omega)
  refine ⟨hp.length, .v (.d (.list (strL nms))), .v (.d (enc (emb j))), .v (.d (enc d)), .v (.d (.str (sx (wl d)))), .v (.d (.str (sx (wl (emb j))))), t8, hp ++ [ob se], ?_⟩
  have e28 : evE (Cf 214) (GT gs) (.call 28 [.var 2, .bin .Add (.cst (.int 1)) (.call 23 [.var 2, .cst (.int 4)])]) (En41 ns hp.length (.v (.d (.int a))) s3 s4 s5 s6 s7 s8) (hp ++ [ob s]) = .ok (.d (.list (strL nms))) (hp ++ [ob sb']) := by
    refine (e_call (es_cons rfl (es_cons (e_bin rfl ((e_call (es_cons rfl (es_cons rfl es_nil))).trans c4) rfl) es_nil))).trans ?_
    rw [show (1 : Int) + ((v : Nat) : Int) = ((1 + v : Nat) : Int) by omega]
    exact q28
  refine (s_asg ((e_call (es_cons rfl (es_cons rfl es_nil))).trans q) rfl).trans ?_
  refine (s_asg e28 rfl).trans ?_
  refine (s_asg ((e_call (es_cons rfl (es_cons rfl (es_cons rfl es_nil)))).trans q22) rfl).trans ?_
  refine (s_asg ((e_call (es_cons rfl (es_cons rfl (es_cons rfl es_nil)))).trans q37) rfl).trans ?_
  exact judge (ns := ns) (L := hp.length) (s1 := .v (.d (.int a))) (s3 := .v (.d (.list (strL nms)))) (s5 := s5) (s6 := s6) (s7 := s7) (s8 := s8) g gp pp (by omega) (by omega) _ ((s_for (items := rng 0 10) (es_cons rfl es_nil) rfl q5).trans ss_nil)
theorem loop1 {ns : List Int} : ∀ (j a : Nat) (hp : Sh) (s1 s2 s3 s4 s5 s6 s7 s8 : Sl), a + j ≤ 1000 → ∃ t1 t2 t3 t4 t5 t6 t7 t8 h', forLoop (evSs (Cf 214) (GT gs) 50000 body1) (.n 1) (rng a j) [.v (.scr ns), s1, s2, s3, s4, s5, s6, s7, s8] hp = .ok (.nx [.v (.scr ns), t1, t2, t3, t4, t5, t6, t7, t8]) h'
  | 0, a, hp, s1, s2, s3, s4, s5, s6, s7, s8, _ => ⟨s1, s2, s3, s4, s5, s6, s7, s8, hp, fl_nil⟩
  | j + 1, a, hp, s1, s2, s3, s4, s5, s6, s7, s8, h => by
    obtain ⟨L, t3, t4, t5, t6, t7, t8, h', q⟩ := turn1 (hp := hp) (ns := ns) (a := a) (s2 := s2) (s3 := s3) (s4 := s4) (s5 := s5) (s6 := s6) (s7 := s7) (s8 := s8) (by omega)
    obtain ⟨u1, u2, u3, u4, u5, u6, u7, u8, h'', q2⟩ := loop1 j (a + 1) h' (.v (.d (.int a))) (.v (.ref L)) t3 t4 t5 t6 t7 t8 (by omega)
    exact ⟨u1, u2, u3, u4, u5, u6, u7, u8, h'', fl_next rfl q q2⟩
theorem deep {env : En} {h : Sh} : evE (Cf 214) (GT gs) (.call 38 [.bin .Add (.bin .Add (.bin .Mult (.cst (.str "seq(")) (.cst (.int 3000))) (.cst (.str "use(a)"))) (.bin .Mult (.cst (.str ")")) (.cst (.int 3000)))]) env h = .ok (.d (.str "refused")) h := by
  have zz := SZ_eq
  have l4 : (sg "seq(").length = 4 := by decide +kernel
  have l1 : (sg ")").length = 1 := by decide +kernel
  have a : evE (Cf 214) (GT gs) (.bin .Mult (.cst (.str "seq(")) (.cst (.int 3000))) env h = .ok (.d (.str (sx (List.replicate 3000 (sg "seq(")).flatten))) h := e_bin rfl rfl (by
    have := mul_sx (l := sg "seq(") (n := 3000) ⟨by omega, by omega⟩
    rw [sx_sg] at this
    exact this)
  have b : evE (Cf 214) (GT gs) (.bin .Mult (.cst (.str ")")) (.cst (.int 3000))) env h = .ok (.d (.str (sx (List.replicate 3000 (sg ")")).flatten))) h := e_bin rfl rfl (by
    have := mul_sx (l := sg ")") (n := 3000) ⟨by omega, by omega⟩
    rw [sx_sg] at this
    exact this)
  have f4 := flat_len (l := sg "seq(") 3000
  have f1 := flat_len (l := sg ")") 3000
  have lu : ([117, 115, 101, 40, 97, 41] : List Nat).length = 6 := rfl
  rw [l4] at f4
  rw [l1] at f1
  have e := e_bin (e_bin a (ecs c_ua) (add_sx (by omega))) b (add_sx (by rw [List.length_append]; omega))
  rw [List.append_assoc] at e
  exact (e_call (es_cons e es_nil)).trans ((p30 (k := 163) (by rw [List.length_append, List.length_append]; omega)).2 (seq_no (by decide)))
theorem law_ok : ∀ ns : List Int, ns.length ≤ 63 → ∃ hq, callF (ΦT ds) (GT gs) 50000 215 41 [.scr ns] [] = .ok (.d (.bool true)) hq := by
  intro ns hns
  obtain ⟨j, hj, lj⟩ : ∃ j : Nat, (if (if (ns.length : Int) < 8 then (ns.length : Int) else 8) > 1 then (if (ns.length : Int) < 8 then (ns.length : Int) else 8) else 1) = (j : Int) ∧ j ≤ 8 := by
    by_cases c : (ns.length : Int) < 8
    · rw [if_pos c]
      by_cases d : (ns.length : Int) > 1
      · rw [if_pos d]; exact ⟨ns.length, rfl, by omega⟩
      · rw [if_neg d]; exact ⟨1, rfl, by omega⟩
    · rw [if_neg c, if_pos (by decide)]; exact ⟨8, rfl, by omega⟩
  obtain ⟨t1, t2, t3, t4, t5, t6, t7, t8, h', q⟩ := loop1 (ns := ns) j 0 [] .no .no .no .no .no .no .no .no (by omega)
  refine ⟨h', ?_⟩
  rw [call_at φ33 rfl]
  refine fin_end ?_
  obtain ⟨ts, q32, ax, tl⟩ := p32 (k := 213) (h := [])
  have c1 : evE (Cf 214) (GT gs) (.ofL (.comp (.var 6) (.n 6) .seq [.call 40 []] [.not (.call 39 [.var 6])])) [.v (.scr ns), .no, .no, .no, .no, .no, .no, .no, .no] [] = .ok (.d (.list [])) [] := by
    have e1 : evEs (Cf 214) (GT gs) [.call 40 []] [.v (.scr ns), .no, .no, .no, .no, .no, .no, .no, .no] [] = .ok [.d (.list (strL ts))] [] := es_cons ((e_call es_nil).trans q32) es_nil
    have zz := SZ_eq
    refine e_ofL (l_compI (items := (strL ts).map .d) e1 rfl (by rw [List.length_map, strL_len]; omega) (comp_none (strL ts) fun x m => ?_))
    obtain ⟨t, mt, rfl⟩ := List.mem_map.mp m
    refine ⟨_, rfl, ?_⟩
    have e0 : evE (Cf 214) (GT gs) (.not (.call 39 [.var 6])) [.v (.scr ns), .no, .no, .no, .no, .no, .v (.d (.str (sx t))), .no, .no] [] = .ok (.d (.bool false)) [] := e_not (v := true) (t_b ((e_call (es_cons rfl es_nil)).trans (p31 (k := 10) (ax t mt).1 (ax t mt).2)))
    show evC (Cf 214) (GT gs) [.not (.call 39 [.var 6])] [.v (.scr ns), .no, .no, .no, .no, .no, .v (.d (.str (sx t))), .no, .no] [] = _
    rw [evC, e0]
    rfl
  have r : evE (Cf 214) (GT gs) (.bi .max [.cst (.int 1), .bi .min [.cst (.int 8), .bi .len [.var 0]]]) [.v (.scr ns), .no, .no, .no, .no, .no, .no, .no, .no] [] = .ok (.d (.int j)) [] := by
    rw [← hj]
    exact e_bi (es_cons rfl (es_cons (e_bi (es_cons rfl (es_cons rfl es_nil)) rfl rfl) es_nil)) rfl rfl
  have d1 : evE (Cf 214) (GT gs) (.ofL (.disp [])) [.v (.scr ns), .no, .no, .no, .no, .no, .no, .no, .no] [] = .ok (.d (.list [])) [] := e_disp es_nil rfl (Nat.le_of_ble_eq_true rfl)
  refine (s_ifF (t_cmp c1 d1 rfl)).trans ((s_ifF (t_cmp deep rfl eqR)).trans ((s_for (es_cons r es_nil) (items := rng 0 j) (rngV (by omega)) q).trans (s_ret rfl)))
end Tx
open PySem PySem.W PyProof.Rows
set_option maxHeartbeats 0 in
theorem PySem.Challenge.cw_roomprofile_k90_definition_texts_holds : PySem.Challenge.rw_roomprofile_k90_definition_texts.Holds := by
  w_on; o_law; k_head; (case hw => w_witness2)
  k_fill
  refine Mi.walk_me (l := PySem.Challenge.rw_roomprofile_k90_definition_texts) (n := 63) (k := 215) (i := 41) (x := "_law_script") (fld := fun _ => none) (tb := Tx.tb) (Φ := Mi.ΦT Tx.ds) (G := Mi.GT Tx.gs) (W := 50000) (pz := Mi.pzT Tx.ds) rfl (by decide) rfl ⟨rfl, by decide, by decide⟩ rfl ?F rfl Tx.law_ok
  case F =>
    intro w mg h Y N
    have KX := PySem.W.kIn_of Y
    refine ⟨_, _, KX, fun base _ => Mi.prOk KX N rfl rfl (Mi.clsT (cs := Tx.csl) (l := Tx.sbl) KX N rfl rfl rfl ?uC) Tx.defC ?uD ?uG ?uZ⟩
    case uD =>
      refine' Tx.defK ?d0 ?d1 ?d2 ?d3 ?d4 ?d5 ?d6 ?d7 ?d8 ?d9 ?d10 ?d11 ?d12 ?d13 ?d14 ?d15 ?d16 ?d17 ?d18 ?d19 ?d20 ?d21 ?d22 ?d23 ?d24 ?d25 ?d26 ?d27 ?d28 ?d29 ?d30 ?d31 ?d32 ?d33 ?d34 ?d35 ?d36 ?d37 ?d38 ?d39 ?d40 ?d41
      (case d0 => (refine' Mi.DK.of rfl Tx.b0 ?w1 ?w2 ?w3 ?w4; (case w1 => k_is); (case w2 => k_is); (case w3 => k_is); (case w4 => k_is)))
      (case d1 => (refine' Mi.DK.of rfl Tx.b1 ?w1 ?w2 ?w3 ?w4; (case w1 => k_is); (case w2 => k_is); (case w3 => k_is); (case w4 => k_is)))
      (case d2 => (refine' Mi.DK.of rfl Tx.b2 ?w1 ?w2 ?w3 ?w4; (case w1 => k_is); (case w2 => k_is); (case w3 => k_is); (case w4 => k_is)))
      (case d3 => (refine' Mi.DK.of rfl Tx.b3 ?w1 ?w2 ?w3 ?w4; (case w1 => k_is); (case w2 => k_is); (case w3 => k_is); (case w4 => k_is)))
      (case d4 => (refine' Mi.DK.of rfl Tx.b4 ?w1 ?w2 ?w3 ?w4; (case w1 => k_is); (case w2 => k_is); (case w3 => k_is); (case w4 => k_is)))
      (case d5 => (refine' Mi.DK.of rfl Tx.b5 ?w1 ?w2 ?w3 ?w4; (case w1 => k_is); (case w2 => k_is); (case w3 => k_is); (case w4 => k_is)))
      (case d6 => (refine' Mi.DK.of rfl Tx.b6 ?w1 ?w2 ?w3 ?w4; (case w1 => k_is); (case w2 => k_is); (case w3 => k_is); (case w4 => k_is)))
      (case d7 => (refine' Mi.DK.of rfl Tx.b7 ?w1 ?w2 ?w3 ?w4; (case w1 => k_is); (case w2 => k_is); (case w3 => k_is); (case w4 => k_is)))
      (case d8 => (refine' Mi.DK.of rfl Tx.b8 ?w1 ?w2 ?w3 ?w4; (case w1 => k_is); (case w2 => k_is); (case w3 => k_is); (case w4 => k_is)))
      (case d9 => (refine' Mi.DK.of rfl Tx.b9 ?w1 ?w2 ?w3 ?w4; (case w1 => k_is); (case w2 => k_is); (case w3 => k_is); (case w4 => k_is)))
      (case d10 => (refine' Mi.DK.of rfl Tx.b10 ?w1 ?w2 ?w3 ?w4; (case w1 => k_is); (case w2 => k_is); (case w3 => k_is); (case w4 => k_is)))
      (case d11 => (refine' Mi.DK.of rfl Tx.b11 ?w1 ?w2 ?w3 ?w4; (case w1 => k_is); (case w2 => k_is); (case w3 => k_is); (case w4 => k_is)))
      (case d12 => (refine' Mi.DK.ofD Tx.b12 ?w1 ?w2 ?w3 ?w4 ?w5 ?w6 ?w7; (case w1 => k_is); (case w2 => k_is); (case w3 => k_is); (case w4 => k_is); (case w5 => k_is); (case w6 => rfl); (case w7 => kernel_rfl)))
      (case d13 => (refine' Mi.DK.of rfl Tx.b13 ?w1 ?w2 ?w3 ?w4; (case w1 => k_is); (case w2 => k_is); (case w3 => k_is); (case w4 => k_is)))
      (case d14 => (refine' Mi.DK.of rfl Tx.b14 ?w1 ?w2 ?w3 ?w4; (case w1 => k_is); (case w2 => k_is); (case w3 => k_is); (case w4 => k_is)))
      (case d15 => (refine' Mi.DK.of rfl Tx.b15 ?w1 ?w2 ?w3 ?w4; (case w1 => k_is); (case w2 => k_is); (case w3 => k_is); (case w4 => k_is)))
      (case d16 => (refine' Mi.DK.of rfl Tx.b16 ?w1 ?w2 ?w3 ?w4; (case w1 => k_is); (case w2 => k_is); (case w3 => k_is); (case w4 => k_is)))
      (case d17 => (refine' Mi.DK.of rfl Tx.b17 ?w1 ?w2 ?w3 ?w4; (case w1 => k_is); (case w2 => k_is); (case w3 => k_is); (case w4 => k_is)))
      (case d18 => (refine' Mi.DK.of rfl Tx.b18 ?w1 ?w2 ?w3 ?w4; (case w1 => k_is); (case w2 => k_is); (case w3 => k_is); (case w4 => k_is)))
      (case d19 => (refine' Mi.DK.of rfl Tx.b19 ?w1 ?w2 ?w3 ?w4; (case w1 => k_is); (case w2 => k_is); (case w3 => k_is); (case w4 => k_is)))
      (case d20 => (refine' Mi.DK.of rfl Tx.b20 ?w1 ?w2 ?w3 ?w4; (case w1 => k_is); (case w2 => k_is); (case w3 => k_is); (case w4 => k_is)))
      (case d21 => (refine' Mi.DK.of rfl Tx.b21 ?w1 ?w2 ?w3 ?w4; (case w1 => k_is); (case w2 => k_is); (case w3 => k_is); (case w4 => k_is)))
      (case d22 => (refine' Mi.DK.of rfl Tx.b22 ?w1 ?w2 ?w3 ?w4; (case w1 => k_is); (case w2 => k_is); (case w3 => k_is); (case w4 => k_is)))
      (case d23 => (refine' Mi.DK.of rfl Tx.b23 ?w1 ?w2 ?w3 ?w4; (case w1 => k_is); (case w2 => k_is); (case w3 => k_is); (case w4 => k_is)))
      (case d24 => (refine' Mi.DK.of rfl Tx.b24 ?w1 ?w2 ?w3 ?w4; (case w1 => k_is); (case w2 => k_is); (case w3 => k_is); (case w4 => k_is)))
      (case d25 => (refine' Mi.DK.of rfl Tx.b25 ?w1 ?w2 ?w3 ?w4; (case w1 => k_is); (case w2 => k_is); (case w3 => k_is); (case w4 => k_is)))
      (case d26 => (refine' Mi.DK.of rfl Tx.b26 ?w1 ?w2 ?w3 ?w4; (case w1 => k_is); (case w2 => k_is); (case w3 => k_is); (case w4 => k_is)))
      (case d27 => (refine' Mi.DK.of rfl Tx.b27 ?w1 ?w2 ?w3 ?w4; (case w1 => k_is); (case w2 => k_is); (case w3 => k_is); (case w4 => k_is)))
      (case d28 => (refine' Mi.DK.of rfl Tx.b28 ?w1 ?w2 ?w3 ?w4; (case w1 => k_is); (case w2 => k_is); (case w3 => k_is); (case w4 => k_is)))
      (case d29 => (refine' Mi.DK.of rfl Tx.b29 ?w1 ?w2 ?w3 ?w4; (case w1 => k_is); (case w2 => k_is); (case w3 => k_is); (case w4 => k_is)))
      (case d30 => (refine' Mi.DK.of rfl Tx.b30 ?w1 ?w2 ?w3 ?w4; (case w1 => k_is); (case w2 => k_is); (case w3 => k_is); (case w4 => k_is)))
      (case d31 => (refine' Mi.DK.of rfl Tx.b31 ?w1 ?w2 ?w3 ?w4; (case w1 => k_is); (case w2 => k_is); (case w3 => k_is); (case w4 => k_is)))
      (case d32 => (refine' Mi.DK.of rfl Tx.b32 ?w1 ?w2 ?w3 ?w4; (case w1 => k_is); (case w2 => k_is); (case w3 => k_is); (case w4 => k_is)))
      (case d33 => (refine' Mi.DK.of rfl Tx.b33 ?w1 ?w2 ?w3 ?w4; (case w1 => k_is); (case w2 => k_is); (case w3 => k_is); (case w4 => k_is)))
      (case d34 => (refine' Mi.DK.of rfl Tx.b34 ?w1 ?w2 ?w3 ?w4; (case w1 => k_is); (case w2 => k_is); (case w3 => k_is); (case w4 => k_is)))
      (case d35 => (refine' Mi.DK.of rfl Tx.b35 ?w1 ?w2 ?w3 ?w4; (case w1 => k_is); (case w2 => k_is); (case w3 => k_is); (case w4 => k_is)))
      (case d36 => (refine' Mi.DK.of rfl Tx.b36 ?w1 ?w2 ?w3 ?w4; (case w1 => k_is); (case w2 => k_is); (case w3 => k_is); (case w4 => k_is)))
      (case d37 => (refine' Mi.DK.of rfl Tx.b37 ?w1 ?w2 ?w3 ?w4; (case w1 => k_is); (case w2 => k_is); (case w3 => k_is); (case w4 => k_is)))
      (case d38 => (refine' Mi.DK.of rfl Tx.b38 ?w1 ?w2 ?w3 ?w4; (case w1 => k_is); (case w2 => k_is); (case w3 => k_is); (case w4 => k_is)))
      (case d39 => (refine' Mi.DK.of rfl Tx.b39 ?w1 ?w2 ?w3 ?w4; (case w1 => k_is); (case w2 => k_is); (case w3 => k_is); (case w4 => k_is)))
      (case d40 => (refine' Mi.DK.of rfl Tx.b40 ?w1 ?w2 ?w3 ?w4; (case w1 => k_is); (case w2 => k_is); (case w3 => k_is); (case w4 => k_is)))
      (case d41 => (refine' Mi.DK.of rfl Tx.b41 ?w1 ?w2 ?w3 ?w4; (case w1 => k_is); (case w2 => k_is); (case w3 => k_is); (case w4 => k_is)))
    case uC => kernel_rfl
    case uG => kernel_rfl
    case uZ => kernel_rfl
