import PyProof.Rows.All
import Wide.All
import OpenK.AllK
import Wide.FinOn
import HandS.ForMost
import HandS.ForExc
import HandS.Deep
import HandS.TupAny
import HandS.TupMul
import HandS.Wide
import HandS.IsInst
import HandS.TupLe
import HandS.Flow
import HandS.NoneIn
import HandS.Style
import HandS.RaiseMore
import HandS.Codes
import PyProof.ReprRoads
import HandS.Comp
import HandS.Iter
import HandS.Exc
import HandS.ExcIs
import HandS.ExcOwn
import HandS.WordsExc
import KE.KUnpackStar
import PyProof.ExcBaseAll.ValueError
import HandS.Ends
import HandS.More
import HandS.Words
import HandS.HeadEnd
import KE.BitLaws
import PySem.Challenge.RW_roomprofile_k84_jobs_and_values_of_expre
set_option Elab.async false
set_option linter.all false
set_option maxRecDepth 100000
set_option maxHeartbeats 4000000
/-! Mi: a small deterministic reader of the program's text, over data as plain values. -/
namespace Mi
open PySem

/-- a value: data, an object of the heap, a def of the module -/
inductive Vl where
  | d (x : PyData)
  | ref (n : Nat)
  | fn (n : Nat)
  | scr (xs : List Int)

/-- an object that is changed in place and met by more than one name -/
inductive Ob where
  | lst (xs : List PyData)


abbrev Sh := List Ob

/-- an error: its class, the value that it keeps -/
structure Er where
  c : Nat
  v : Option PyData

inductive R (α : Type) where
  | ok (a : α) (h : Sh)
  | ex (x : Er) (h : Sh)
  | no

@[inline] def R.bind {α β : Type} (r : R α) (f : α → Sh → R β) : R β :=
  match r with
  | .ok a h => f a h
  | .ex x h => .ex x h
  | .no => .no

/-- a local name: unset, a value, a list that this frame alone holds -/
inductive Sl where
  | no
  | v (x : Vl)
  | own (xs : List PyData)

abbrev En := List Sl

/-- built-in calls on data -/
inductive BI where
  | len | abs | min | max | sum | int | str | repr | tuple | list | all | any | sorted
  deriving DecidableEq

/-- types of isinstance -/
inductive Ty where
  | int | str | bool | tuple | list | dict
  deriving DecidableEq

/-- methods of data -/
inductive ME where
  | join | split | words | partition | count | replace | index | get
  deriving DecidableEq

/-- targets -/
inductive Tg where
  | n (i : Nat)
  | t (is : List Nat)
  | st (is : List Nat) (r : Nat)

inductive It where
  | seq | range1 | range2 | enum | zip

mutual
inductive Te where
  | cst (v : PyData)
  | var (i : Nat)
  | peek (i : Nat)
  | glob (g : Nat)
  | bin (op : Operator) (a b : Te)
  | cmp (op : CmpOp) (a b : Te)
  | chain (o1 o2 : CmpOp) (a b c : Te)
  | and (es : List Te)
  | or (es : List Te)
  | not (e : Te)
  | ite (t a b : Te)
  | neg (e : Te)
  | tup (es : List Te)
  | dict0
  | ofL (l : Tl)
  | newl (l : Tl)
  | ix (a i : Te)
  | sliceF (a lo : Te)
  | sliceT (a hi : Te)
  | sliceB (a lo hi : Te)
  | rev (a : Te)
  | call (f : Nat) (es : List Te)
  | bi (b : BI) (es : List Te)
  | isi (e : Te) (ts : List Ty)
  | me (m : ME) (r : Te) (es : List Te)
inductive Tl where
  | disp (es : List Te)
  | comp (elt : Te) (tg : Tg) (k : It) (es : List Te) (cs : List Te)
end

inductive Tm where
  | e (p : Te)
  | l (p : Tl)

/-- tests, values of an except suite -/
inductive Ht where
  | isx (c : Nat) (cls : List Nat)
  | and (a b : Ht)
  | or (a b : Ht)
  | not (a : Ht)
inductive He where
  | cst (d : PyData)
  | ite (t : Ht) (a b : He)

inductive Ts where
  | doc
  | asg (tg : Tg) (e : Te)
  | own (i : Nat) (l : Tl)
  | par (is : List Nat) (es : List Tm)
  | ownix (s : Nat) (i e : Te)
  | freeze (i : Nat)
  | aug (i : Nat) (op : Operator) (e : Te)
  | setix (r i e : Te)
  | app (s : Nat) (e : Te)
  | ext (s : Nat) (e : Te)
  | expr (e : Te)
  | ret (e : Te)
  | retN
  | iff (t : Te) (a b : List Ts)
  | for (tg : Tg) (k : It) (es : List Te) (body : List Ts)
  | while (t : Te) (body : List Ts)
  | raise (c : Nat)
  | tryE (body : List Ts) (c : Nat) (cls : List Nat) (i : Nat) (hd : He)
  | brk
  | cont
  | pass

inductive Out where
  | nx (e : En)
  | rt (v : Vl)
  | bk (e : En)
  | ct (e : En)

end Mi
namespace Mi
open PySem

/-! ### data -/
def LIM : Nat := 10 ^ 2000
def okI (i : Int) : Bool := decide (i.natAbs < LIM)
def LIS : Nat := 10 ^ 570
def okS (i : Int) : Bool := decide (i.natAbs < LIS)
def SZ : Nat := 16777216

def truD : PyData → Option Bool
  | .none => some false
  | .bool b => some b
  | .int i => some (i != 0)
  | .str x => if x.length ≤ SZ then some (decide (x.length ≠ 0)) else none
  | .list xs => some (!xs.isEmpty)
  | .tuple xs => some (!xs.isEmpty)
  | .dict _ => none
def truV : Vl → Option Bool
  | .d x => truD x
  | _ => none

def flatD : PyData → Bool
  | .none => true
  | .bool _ => true
  | .int _ => true
  | .str _ => true
  | _ => false

/-- == of data -/
def eqD : PyData → PyData → Option Bool
  | .tuple xs, .tuple [] => some xs.isEmpty
  | .list xs, .list [] => some xs.isEmpty
  | a, b => if (flatD a && flatD b) || (SeqAt.shaped a && SeqAt.shaped b) then some (PyData.eqv a b) else none

def inD (x : PyData) (ys : List PyData) : Option Bool :=
  if flatD x && ys.all flatD then some (ys.any fun y => PyData.eqv y x)
  else if SeqAt.shaped x && SeqAt.shaped (.list ys) then some (ys.any fun y => PyData.eqv y x) else none

def intsOf : List PyData → Option (List Int)
  | [] => some []
  | .int i :: r => (intsOf r).map (i :: ·)
  | _ => none
def boolsOf : List PyData → Option (List Bool)
  | [] => some []
  | .bool b :: r => (boolsOf r).map (b :: ·)
  | _ => none
def strsOf : List PyData → Option (List Str)
  | [] => some []
  | .str x :: r => (strsOf r).map (x :: ·)
  | _ => none

def repL (n : Nat) (xs : List PyData) : List PyData := (List.replicate n xs).flatten

def binD : Operator → PyData → PyData → Option PyData
  | .Add, .int i, .int j => some (.int (i + j))
  | .Add, .str x, .str y => if x.length + y.length ≤ SZ then some (.str (x ++ y)) else none
  | .Add, .list xs, .list ys => if xs.length + ys.length ≤ SZ then some (.list (xs ++ ys)) else none
  | .Add, .tuple xs, .tuple ys => if xs.length + ys.length ≤ SZ then some (.tuple (xs ++ ys)) else none
  | .Sub, .int i, .int j => some (.int (i - j))
  | .Mult, .int i, .int j => if okI i && okI j then some (.int (i * j)) else none
  | .Mult, .list xs, .int n => if -1000 ≤ n ∧ n ≤ 1000 ∧ xs.length ≤ 1000 then some (.list (repL n.toNat xs)) else none
  | .Mult, .tuple xs, .int n => if 2 ≤ n ∧ n ≤ 1000 ∧ xs.length ≤ 1000 ∧ xs.isEmpty = false then some (.tuple (repL n.toNat xs)) else none
  | .FloorDiv, .int i, .int j => if decide (0 < j) && okI j then some (.int (i / j)) else none
  | .Mod, .int i, .int j => if 0 < j then some (.int (i % j)) else none
  | .Pow, .int i, .int j => if decide (0 ≤ j ∧ j ≤ 100) && okI i then some (.int (i ^ j.toNat)) else none
  | .BitAnd, .int i, .int j => some (.int (Builtin.bitAnd i j))
  | .BitOr, .int i, .int j => some (.int (Builtin.bitOr i j))
  | _, _, _ => none

def isN : PyData → Bool
  | .none => true
  | _ => false
/-- one sign in a text -/
def inS (x y : Str) : Option Bool :=
  match x.cps.toList with
  | [c] => some (decide (c ∈ y.cps.toList))
  | _ => none

def cmpD : CmpOp → PyData → PyData → Option Bool
  | .Eq, a, b => eqD a b
  | .NotEq, a, b => (eqD a b).map (!·)
  | .Lt, .int i, .int j => some (decide (i < j))
  | .LtE, .int i, .int j => some (decide (i ≤ j))
  | .Gt, .int i, .int j => some (decide (j < i))
  | .GtE, .int i, .int j => some (decide (j ≤ i))
  | .Is, a, .none => some (isN a)
  | .IsNot, a, .none => some (!isN a)
  | .Is, .bool a, .bool b => some (a == b)
  | .IsNot, .bool a, .bool b => some (a != b)
  | .In, x, .tuple ys => inD x ys
  | .In, x, .list ys => inD x ys
  | .In, .str x, .str y => inS x y
  | .NotIn, .str x, .str y => (inS x y).map (!·)
  | .NotIn, x, .tuple ys => (inD x ys).map (!·)
  | .NotIn, x, .list ys => (inD x ys).map (!·)
  | _, _, _ => none

def ixD : PyData → Int → Option PyData
  | .tuple xs, i => L2.atI xs i
  | .list xs, i => L2.atI xs i
  | .str x, i => if x.length ≤ SZ then (L2.atI x.cps.toList i).map fun c => .str ⟨#[c]⟩ else none
  | _, _ => none

def cut {α : Type} (xs : List α) (lo hi : Option Int) : List α :=
  (xs.drop (HT.sIx xs.length 0 lo)).take (HT.sIx xs.length xs.length hi - HT.sIx xs.length 0 lo)
def sliceD : PyData → Option Int → Option Int → Option PyData
  | .tuple xs, lo, hi => some (.tuple (cut xs lo hi))
  | .list xs, lo, hi => some (.list (cut xs lo hi))
  | .str x, lo, hi => if x.length ≤ SZ then some (.str (L2.cutS x lo hi)) else none
  | _, _, _ => none
def revD : PyData → Option PyData
  | .tuple xs => some (.tuple xs.reverse)
  | .list xs => some (.list xs.reverse)
  | _ => none

def isT : Ty → PyData → Bool
  | .int, .int _ => true
  | .int, .bool _ => true
  | .str, .str _ => true
  | .bool, .bool _ => true
  | .tuple, .tuple _ => true
  | .list, .list _ => true
  | .dict, .dict _ => true
  | _, _ => false

def maxL : List Int → Option Int
  | [] => none
  | i :: r => some (r.foldl (fun m x => if x > m then x else m) i)
def minL : List Int → Option Int
  | [] => none
  | i :: r => some (r.foldl (fun m x => if x < m then x else m) i)

def showOk (d : PyData) : Bool := d.showable && decide (d.shown.length ≤ SZ) && decide (d.depth ≤ 150)

def biD : BI → List PyData → Option PyData
  | .len, [.tuple xs] => some (.int xs.length)
  | .len, [.list xs] => some (.int xs.length)
  | .len, [.str x] => if x.length ≤ SZ then some (.int x.length) else none
  | .abs, [.int i] => some (.int (if i < 0 then -i else i))
  | .max, [.int i, .int j] => some (.int (if j > i then j else i))
  | .min, [.int i, .int j] => some (.int (if j < i then j else i))
  | .max, [.list xs] => (intsOf xs).bind fun ns => (maxL ns).map .int
  | .min, [.list xs] => (intsOf xs).bind fun ns => (minL ns).map .int
  | .sum, [.list xs] => (intsOf xs).map fun ns => .int ns.sum
  | .int, [.int i] => some (.int i)
  | .int, [.bool b] => some (.int (if b then 1 else 0))
  | .str, [.int i] => if okS i then some (.str (Str.ofString (toString i))) else none
  | .str, [.str x] => some (.str x)
  | .repr, [d] => if showOk d then some (.str d.shown) else none
  | .tuple, [.list xs] => some (.tuple xs)
  | .tuple, [.tuple xs] => some (.tuple xs)
  | .list, [.list xs] => some (.list xs)
  | .list, [.tuple xs] => some (.list xs)
  | .all, [.list xs] => (boolsOf xs).map fun bs => .bool (bs.all id)
  | .any, [.list xs] => (boolsOf xs).map fun bs => .bool (bs.any id)
  | _, _ => none

def meD : ME → PyData → List PyData → Option PyData
  | _, _, _ => none

/-! ### running -/
def lift (o : Option PyData) (h : Sh) : R Vl :=
  match o with
  | some x => .ok (.d x) h
  | none => .no

def datL : List Vl → Option (List PyData)
  | [] => some []
  | .d x :: r => (datL r).map (x :: ·)
  | _ => none

/-- an item of data, or of a list of the heap -/
def ixV (h : Sh) : Vl → Vl → Option PyData
  | .d x, .d (.int i) => ixD x i
  | .ref n, .d (.int i) => match h[n]? with
    | some (.lst xs) => L2.atI xs i
    | none => none
  | .scr xs, .d (.int i) => (L2.atI xs i).map .int
  | _, _ => none
/-- len, of a list of the heap too -/
def lenV (h : Sh) : List Vl → Option PyData
  | [.ref n] => match h[n]? with
    | some (.lst xs) => some (.int xs.length)
    | none => none
  | [.scr xs] => some (.int xs.length)
  | _ => none

def bindIs : List Nat → List PyData → En → Option En
  | [], [], e => some e
  | i :: is, x :: xs, e => bindIs is xs (e.set i (.v (.d x)))
  | _, _, _ => none
def bindSt : List Nat → Nat → List PyData → En → Option En
  | [], r, xs, e => some (e.set r (.v (.d (.list xs))))
  | i :: is, r, x :: xs, e => bindSt is r xs (e.set i (.v (.d x)))
  | _, _, _, _ => none
def bindTg : Tg → Vl → En → Option En
  | .n i, x, e => some (e.set i (.v x))
  | .t is, .d (.tuple xs), e => bindIs is xs e
  | .t is, .d (.list xs), e => bindIs is xs e
  | .st is r, .d (.tuple xs), e => bindSt is r xs e
  | _, _, _ => none
def Tg.names : Tg → List Nat
  | .n i => [i]
  | .t is => is
  | .st is r => is ++ [r]
def wipeE : List Nat → En → En
  | [], e => e
  | i :: is, e => (wipeE is e).set i .no

def pairs : Nat → List PyData → List Vl
  | _, [] => []
  | k, x :: r => .d (.tuple [.int k, x]) :: pairs (k + 1) r
def zips : List PyData → List PyData → List Vl
  | x :: xs, y :: ys => .d (.tuple [x, y]) :: zips xs ys
  | _, _ => []
def rng (lo : Int) : Nat → List Vl
  | 0 => []
  | n + 1 => .d (.int lo) :: rng (lo + 1) n
def seqD : PyData → Option (List PyData)
  | .tuple xs => some xs
  | .list xs => some xs
  | _ => none
def evIt : It → List Vl → Option (List Vl)
  | .seq, [.d x] => (seqD x).map fun xs => xs.map .d
  | .range1, [.d (.int n)] => if -1000000 ≤ n ∧ n ≤ 1000000 then some (rng 0 n.toNat) else none
  | .range2, [.d (.int i), .d (.int j)] => if -1000000 ≤ i ∧ i ≤ 1000000 ∧ -1000000 ≤ j ∧ j ≤ 1000000 then some (rng i (j - i).toNat) else none
  | .enum, [.d (.list xs)] => some (pairs 0 xs)
  | .zip, [.d (.list xs), .d (.list ys)] => some (zips xs ys)
  | _, _ => none

def noEx {α : Type} : R α → R α
  | .ok a h => .ok a h
  | .ex _ _ => .no
  | .no => .no

def compLoop (tg : Tg) (cond : En → Sh → R Bool) (elt : En → Sh → R Vl) (env : En) : List Vl → Sh → R (List PyData)
  | [], h => .ok [] h
  | x :: xs, h =>
    match bindTg tg x env with
    | none => .no
    | some env' => (noEx (cond env' h)).bind fun b h1 =>
      if b then (noEx (elt env' h1)).bind fun y h2 =>
        match y with
        | .d y => (compLoop tg cond elt env xs h2).bind fun ys h3 => .ok (y :: ys) h3
        | _ => .no
      else compLoop tg cond elt env xs h1

mutual
def evE (C : Nat → List Vl → Sh → R Vl) (G : Nat → Option PyData) : Te → En → Sh → R Vl
  | .cst v, _, h => .ok (.d v) h
  | .var i, env, h => match env[i]? with
    | some (.v x) => .ok x h
    | _ => .no
  | .peek i, env, h => match env[i]? with
    | some (.v x) => .ok x h
    | some (.own xs) => .ok (.d (.list xs)) h
    | _ => .no
  | .glob g, _, h => lift (G g) h
  | .bin op a b, env, h => (evE C G a env h).bind fun x h1 => (evE C G b env h1).bind fun y h2 =>
    match x, y with
    | .d x, .d y => lift (binD op x y) h2
    | _, _ => .no
  | .cmp op a b, env, h => (evE C G a env h).bind fun x h1 => (evE C G b env h1).bind fun y h2 =>
    match x, y with
    | .d x, .d y => lift ((cmpD op x y).map .bool) h2
    | _, _ => .no
  | .chain o1 o2 a b c, env, h => (evE C G a env h).bind fun x h1 => (evE C G b env h1).bind fun y h2 =>
    match x, y with
    | .d x, .d y => match cmpD o1 x y with
      | some true => (evE C G c env h2).bind fun z h3 => match z with
        | .d z => lift ((cmpD o2 y z).map .bool) h3
        | _ => .no
      | some false => .ok (.d (.bool false)) h2
      | none => .no
    | _, _ => .no
  | .and es, env, h => evAnd C G es env h
  | .or es, env, h => evOr C G es env h
  | .not e, env, h => (evE C G e env h).bind fun x h1 => match truV x with
    | some b => .ok (.d (.bool (!b))) h1
    | none => .no
  | .ite t a b, env, h => (evE C G t env h).bind fun x h1 => match truV x with
    | some true => evE C G a env h1
    | some false => evE C G b env h1
    | none => .no
  | .neg e, env, h => (evE C G e env h).bind fun x h1 => match x with
    | .d (.int i) => .ok (.d (.int (-i))) h1
    | _ => .no
  | .tup es, env, h => (evEs C G es env h).bind fun xs h1 => match datL xs with
    | some ds => if ds.length ≤ SZ then .ok (.d (.tuple ds)) h1 else .no
    | none => .no
  | .dict0, _, h => .ok (.d (.dict [])) h
  | .ofL l, env, h => (evL C G l env h).bind fun xs h1 => .ok (.d (.list xs)) h1
  | .newl l, env, h => (evL C G l env h).bind fun xs h1 => .ok (.ref h1.length) (h1 ++ [.lst xs])
  | .ix a i, env, h => (evE C G a env h).bind fun x h1 => (evE C G i env h1).bind fun y h2 => lift (ixV h2 x y) h2
  | .sliceF a lo, env, h => (evE C G a env h).bind fun x h1 => (evE C G lo env h1).bind fun y h2 =>
    match x, y with
    | .d x, .d (.int i) => lift (sliceD x (some i) none) h2
    | _, _ => .no
  | .sliceT a hi, env, h => (evE C G a env h).bind fun x h1 => (evE C G hi env h1).bind fun y h2 =>
    match x, y with
    | .d x, .d (.int i) => lift (sliceD x none (some i)) h2
    | _, _ => .no
  | .sliceB a lo hi, env, h => (evE C G a env h).bind fun x h1 => (evE C G lo env h1).bind fun y h2 =>
    match y with
    | .d (.int i) => (evE C G hi env h2).bind fun z h3 =>
      match x, z with
      | .d x, .d (.int j) => lift (sliceD x (some i) (some j)) h3
      | _, _ => .no
    | _ => .no
  | .rev a, env, h => (evE C G a env h).bind fun x h1 => match x with
    | .d x => lift (revD x) h1
    | _ => .no
  | .call f es, env, h => (evEs C G es env h).bind fun xs h1 => C f xs h1
  | .bi b es, env, h => (evEs C G es env h).bind fun xs h1 => match datL xs with
    | some ds => lift (biD b ds) h1
    | none => if b = .len then lift (lenV h1 xs) h1 else .no
  | .isi e ts, env, h => (evE C G e env h).bind fun x h1 => match x with
    | .d x => .ok (.d (.bool (ts.any fun t => isT t x))) h1
    | _ => .no
  | .me m r es, env, h => (evE C G r env h).bind fun x h1 => (evEs C G es env h1).bind fun xs h2 =>
    match x, datL xs with
    | .d x, some ds => lift (meD m x ds) h2
    | _, _ => .no
def evEs (C : Nat → List Vl → Sh → R Vl) (G : Nat → Option PyData) : List Te → En → Sh → R (List Vl)
  | [], _, h => .ok [] h
  | e :: r, env, h => (evE C G e env h).bind fun x h1 => (evEs C G r env h1).bind fun xs h2 => .ok (x :: xs) h2
def evAnd (C : Nat → List Vl → Sh → R Vl) (G : Nat → Option PyData) : List Te → En → Sh → R Vl
  | [], _, _ => .no
  | [e], env, h => evE C G e env h
  | e :: r, env, h => (evE C G e env h).bind fun x h1 => match truV x with
    | some true => evAnd C G r env h1
    | some false => .ok x h1
    | none => .no
def evOr (C : Nat → List Vl → Sh → R Vl) (G : Nat → Option PyData) : List Te → En → Sh → R Vl
  | [], _, _ => .no
  | [e], env, h => evE C G e env h
  | e :: r, env, h => (evE C G e env h).bind fun x h1 => match truV x with
    | some true => .ok x h1
    | some false => evOr C G r env h1
    | none => .no
def evL (C : Nat → List Vl → Sh → R Vl) (G : Nat → Option PyData) : Tl → En → Sh → R (List PyData)
  | .disp es, env, h => (evEs C G es env h).bind fun xs h1 => match datL xs with
    | some ds => if ds.length ≤ SZ then .ok ds h1 else .no
    | none => .no
  | .comp elt tg k es cs, env, h => (evEs C G es env h).bind fun xs h1 => match evIt k xs with
    | some items => if items.length ≤ SZ then compLoop tg (evC C G cs) (evE C G elt) (wipeE tg.names env) items h1 else .no
    | none => .no
def evC (C : Nat → List Vl → Sh → R Vl) (G : Nat → Option PyData) : List Te → En → Sh → R Bool
  | [], _, h => .ok true h
  | e :: r, env, h => (evE C G e env h).bind fun x h1 => match truV x with
    | some true => evC C G r env h1
    | some false => .ok false h1
    | none => .no
end

def forLoop (body : En → Sh → R Out) (tg : Tg) : List Vl → En → Sh → R Out
  | [], env, h => .ok (.nx env) h
  | x :: xs, env, h =>
    match bindTg tg x env with
    | none => .no
    | some env' => (body env' h).bind fun o h1 => match o with
      | .nx e => forLoop body tg xs e h1
      | .ct e => forLoop body tg xs e h1
      | .bk e => .ok (.nx e) h1
      | .rt v => .ok (.rt v) h1

def whLoop (test : En → Sh → R Bool) (body : En → Sh → R Out) : Nat → En → Sh → R Out
  | 0, _, _ => .no
  | k + 1, env, h => (test env h).bind fun b h1 =>
    if b then (body env h1).bind fun o h2 => match o with
      | .nx e => whLoop test body k e h2
      | .ct e => whLoop test body k e h2
      | .bk e => .ok (.nx e) h2
      | .rt v => .ok (.rt v) h2
    else .ok (.nx env) h1

def tru (r : R Vl) : R Bool := r.bind fun x h => match truV x with
  | some b => .ok b h
  | none => .no

def bindAll : List Nat → List Sl → En → Option En
  | [], [], e => some e
  | i :: is, x :: xs, e => bindAll is xs (e.set i x)
  | _, _, _ => none
def evXs (C : Nat → List Vl → Sh → R Vl) (G : Nat → Option PyData) : List Tm → En → Sh → R (List Sl)
  | [], _, h => .ok [] h
  | .e p :: r, env, h => (evE C G p env h).bind fun x h1 => (evXs C G r env h1).bind fun xs h2 => .ok (.v x :: xs) h2
  | .l p :: r, env, h => (evL C G p env h).bind fun x h1 => (evXs C G r env h1).bind fun xs h2 => .ok (.own x :: xs) h2

def evHt : Ht → Nat → Bool
  | .isx _ cls, k => cls.contains k
  | .and a b, k => evHt a k && evHt b k
  | .or a b, k => evHt a k || evHt b k
  | .not a, k => !evHt a k
def evH : He → Nat → PyData
  | .cst d, _ => d
  | .ite t a b, k => if evHt t k then evH a k else evH b k
mutual
def evS (C : Nat → List Vl → Sh → R Vl) (G : Nat → Option PyData) (W : Nat) : Ts → En → Sh → R Out
  | .asg tg e, env, h => (evE C G e env h).bind fun x h1 => match bindTg tg x env with
    | some env' => .ok (.nx env') h1
    | none => .no
  | .own i l, env, h => (evL C G l env h).bind fun xs h1 => .ok (.nx (env.set i (.own xs))) h1
  | .doc, env, h => .ok (.nx env) h
  | .par is es, env, h => (evXs C G es env h).bind fun xs h1 => match bindAll is xs env with
    | some env' => .ok (.nx env') h1
    | none => .no
  | .freeze i, env, h => match env[i]? with
    | some (.own xs) => .ok (.nx (env.set i (.v (.d (.list xs))))) h
    | _ => .no
  | .aug i op e, env, h => match env[i]? with
    | some (.v (.d x)) => (evE C G e env h).bind fun y h1 => match y with
      | .d y => if flatD x then match binD op x y with
        | some z => .ok (.nx (env.set i (.v (.d z)))) h1
        | none => .no
        else .no
      | _ => .no
    | _ => .no
  | .setix r i e, env, h => (evE C G e env h).bind fun v h1 => (evE C G r env h1).bind fun x h2 => (evE C G i env h2).bind fun y h3 =>
    match v, x, y with
    | .d v, .ref n, .d (.int j) => match h3[n]? with
      | some (.lst xs) => match L2.ixN xs.length j with
        | some k => .ok (.nx env) (h3.set n (.lst (xs.set k v)))
        | none => .no
      | _ => .no
    | _, _, _ => .no
  | .ownix s i e, env, h => match env[s]? with
    | some (.own xs) => (evE C G e env h).bind fun v h1 => (evE C G i env h1).bind fun y h2 =>
      match v, y with
      | .d v, .d (.int j) => match L2.ixN xs.length j with
        | some k => .ok (.nx (env.set s (.own (xs.set k v)))) h2
        | none => .no
      | _, _ => .no
    | _ => .no
  | .app s e, env, h => match env[s]? with
    | some (.own xs) => (evE C G e env h).bind fun v h1 => match v with
      | .d v => if xs.length < SZ then .ok (.nx (env.set s (.own (xs ++ [v])))) h1 else .no
      | _ => .no
    | _ => .no
  | .ext s e, env, h => match env[s]? with
    | some (.own xs) => (evE C G e env h).bind fun v h1 => match v with
      | .d (.list ys) => if xs.length + ys.length ≤ SZ then .ok (.nx (env.set s (.own (xs ++ ys)))) h1 else .no
      | _ => .no
    | _ => .no
  | .expr e, env, h => (evE C G e env h).bind fun _ h1 => .ok (.nx env) h1
  | .ret e, env, h => (evE C G e env h).bind fun x h1 => .ok (.rt x) h1
  | .retN, _, h => .ok (.rt (.d .none)) h
  | .iff t a b, env, h => (tru (evE C G t env h)).bind fun c h1 => if c then evSs C G W a env h1 else evSs C G W b env h1
  | .for tg k es body, env, h => (evEs C G es env h).bind fun xs h1 => match evIt k xs with
    | some items => forLoop (evSs C G W body) tg items env h1
    | none => .no
  | .while t body, env, h => whLoop (fun e g => tru (evE C G t e g)) (evSs C G W body) W env h
  | .raise c, env, h => .ex ⟨c, none⟩ h
  | .tryE body c cls i hd, env, h => match evSs C G W body env h with
    | .ex e h' => if cls.contains e.c then (match e.v with
      | none => .ok (.rt (.d (evH hd e.c))) h'
      | some _ => .no) else .ex e h'
    | r => r
  | .brk, env, h => .ok (.bk env) h
  | .cont, env, h => .ok (.ct env) h
  | .pass, env, h => .ok (.nx env) h
def evSs (C : Nat → List Vl → Sh → R Vl) (G : Nat → Option PyData) (W : Nat) : List Ts → En → Sh → R Out
  | [], env, h => .ok (.nx env) h
  | s :: r, env, h => (evS C G W s env h).bind fun o h1 => match o with
    | .nx e => evSs C G W r e h1
    | o => .ok o h1
end

/-- a def: parameters, names, body -/
structure Fd where
  ps : Nat
  n : Nat
  body : List Ts

def startE (n : Nat) (xs : List Vl) : En := xs.map .v ++ List.replicate (n - xs.length) .no

/-- a call, k calls deep at most -/
def callF (Φ : Nat → Option Fd) (G : Nat → Option PyData) (W : Nat) : Nat → Nat → List Vl → Sh → R Vl
  | 0, _, _, _ => .no
  | k + 1, f, xs, h => match Φ f with
    | some F => if xs.length = F.ps then (evSs (callF Φ G W k) G W F.body (startE F.n xs) h).bind fun o h1 => match o with
        | .rt v => .ok v h1
        | .nx _ => .ok (.d .none) h1
        | _ => .no
      else .no
    | none => .no
end Mi
/-! Mi: data at abstract values; the heap of the reader beside the hand layer's. -/
namespace Mi
open PySem PySem.Spec PyProof.Rows L2
abbrev Sg := L2.St

def keyD : PyData → Option Key
  | .int i => some (.inl i)
  | .str x => some (.inr x)
  | _ => none

mutual
def Rp (K : PySem.W.Frag) (Z : Hp) : PyData → V → Prop
  | .none, v => v = .non
  | .bool b, v => v = .bl b
  | .int i, v => v = .int i
  | .str x, v => v = .str x
  | .list xs, v => ∃ a vs, v = .ref a ∧ Z a = some (.lst vs) ∧ RpL K Z xs vs
  | .tuple xs, v => ∃ a vs, v = .ref a ∧ SqT K Z a vs ∧ RpL K Z xs vs
  | .dict kvs, v => ∃ a l, v = .ref a ∧ Z a = some (.dK l) ∧ RpM K Z kvs l
def RpL (K : PySem.W.Frag) (Z : Hp) : List PyData → List V → Prop
  | [], vs => vs = []
  | x :: xs, vs => ∃ v r, vs = v :: r ∧ Rp K Z x v ∧ RpL K Z xs r
def RpM (K : PySem.W.Frag) (Z : Hp) : List (PyData × PyData) → List (Key × V) → Prop
  | [], l => l = []
  | (k, d) :: r, l => ∃ q v t, l = (q, v) :: t ∧ keyD k = some q ∧ Rp K Z d v ∧ RpM K Z r t
end

section
variable {K : PySem.W.Frag} {Z Z' : Hp}
theorem sqL_mono (m : ∀ a o, Z a = some o → Z' a = some o) {a : Addr} {vs : List V} (h : SqL K Z a vs) : SqL K Z' a vs := by
  rcases h with (h | ⟨o, h⟩) | h
  · exact .inl (.inl (m _ _ h))
  · exact .inl (.inr ⟨o, m _ _ h⟩)
  · exact .inr h
theorem sqT_mono (m : ∀ a o, Z a = some o → Z' a = some o) {a : Addr} {vs : List V} (h : SqT K Z a vs) : SqT K Z' a vs := by
  rcases h with (h | ⟨o, h⟩) | h
  · exact .inl (.inl (m _ _ h))
  · exact .inl (.inr ⟨o, m _ _ h⟩)
  · exact .inr h
theorem rd_mono (m : ∀ a o, Z a = some o → Z' a = some o) {a : Addr} {u : HO} (h : Rd Z a u) : Rd Z' a u := by
  rcases h with h | ⟨o, h⟩
  · exact .inl (m _ _ h)
  · exact .inr ⟨o, m _ _ h⟩
mutual
theorem Rp.mono (m : ∀ a o, Z a = some o → Z' a = some o) : ∀ (d : PyData) (v : V), Rp K Z d v → Rp K Z' d v
  | .none, _, h => by simpa only [Rp] using h
  | .bool _, _, h => by simpa only [Rp] using h
  | .int _, _, h => by simpa only [Rp] using h
  | .str _, _, h => by simpa only [Rp] using h
  | .list xs, v, h => by
    simp only [Rp] at h ⊢
    obtain ⟨a, vs, e, s, r⟩ := h
    exact ⟨a, vs, e, m _ _ s, RpL.mono m xs vs r⟩
  | .tuple xs, v, h => by
    simp only [Rp] at h ⊢
    obtain ⟨a, vs, e, s, r⟩ := h
    exact ⟨a, vs, e, sqT_mono m s, RpL.mono m xs vs r⟩
  | .dict kvs, v, h => by
    simp only [Rp] at h ⊢
    obtain ⟨a, l, e, s, r⟩ := h
    exact ⟨a, l, e, m _ _ s, RpM.mono m kvs l r⟩
theorem RpL.mono (m : ∀ a o, Z a = some o → Z' a = some o) : ∀ (ds : List PyData) (vs : List V), RpL K Z ds vs → RpL K Z' ds vs
  | [], _, h => by simpa only [RpL] using h
  | x :: xs, _, h => by
    simp only [RpL] at h ⊢
    obtain ⟨v, r, e, h1, h2⟩ := h
    exact ⟨v, r, e, Rp.mono m x v h1, RpL.mono m xs r h2⟩
theorem RpM.mono (m : ∀ a o, Z a = some o → Z' a = some o) : ∀ (ds : List (PyData × PyData)) (l : List (Key × V)), RpM K Z ds l → RpM K Z' ds l
  | [], _, h => by simpa only [RpM] using h
  | (k, d) :: xs, _, h => by
    simp only [RpM] at h ⊢
    obtain ⟨q, v, t, e, hk, h1, h2⟩ := h
    exact ⟨q, v, t, e, hk, Rp.mono m d v h1, RpM.mono m xs t h2⟩
end
theorem RpL.length : ∀ {ds : List PyData} {vs : List V}, RpL K Z ds vs → vs.length = ds.length
  | [], _, h => by
    simp only [RpL] at h
    rw [h]; rfl
  | x :: xs, _, h => by
    simp only [RpL] at h
    obtain ⟨v, r, rfl, _, h2⟩ := h
    rw [List.length_cons, List.length_cons, RpL.length h2]
theorem RpL.get : ∀ {ds : List PyData} {vs : List V} {i : Nat} {x : PyData}, RpL K Z ds vs → ds[i]? = some x → ∃ v, vs[i]? = some v ∧ Rp K Z x v
  | [], _, _, _, _, e => by simp at e
  | y :: ys, _, 0, x, h, e => by
    simp only [RpL] at h
    obtain ⟨v, r, rfl, h1, _⟩ := h
    simp at e
    subst e
    exact ⟨v, rfl, h1⟩
  | y :: ys, _, i + 1, x, h, e => by
    simp only [RpL] at h
    obtain ⟨v, r, rfl, _, h2⟩ := h
    obtain ⟨w, e1, e2⟩ := RpL.get (i := i) h2 (by simpa using e)
    exact ⟨w, by simpa using e1, e2⟩
theorem RpL.append : ∀ {ds es : List PyData} {vs ws : List V}, RpL K Z ds vs → RpL K Z es ws → RpL K Z (ds ++ es) (vs ++ ws)
  | [], _, _, _, h, g => by
    simp only [RpL] at h
    subst h
    exact g
  | x :: xs, es, _, ws, h, g => by
    simp only [RpL] at h
    obtain ⟨v, r, rfl, h1, h2⟩ := h
    show RpL K Z (x :: (xs ++ es)) (v :: (r ++ ws))
    simp only [RpL]
    exact ⟨v, _, rfl, h1, RpL.append h2 g⟩
theorem RpL.nil : RpL K Z [] [] := by simp only [RpL]
theorem RpL.cons {x : PyData} {v : V} {xs : List PyData} {vs : List V} (h : Rp K Z x v) (g : RpL K Z xs vs) : RpL K Z (x :: xs) (v :: vs) := by
  simp only [RpL]
  exact ⟨v, vs, rfl, h, g⟩
theorem RpL.take : ∀ {ds : List PyData} {vs : List V} (n : Nat), RpL K Z ds vs → RpL K Z (ds.take n) (vs.take n)
  | _, _, 0, _ => RpL.nil
  | [], _, n + 1, h => by
    simp only [RpL] at h
    subst h
    exact RpL.nil
  | x :: xs, _, n + 1, h => by
    simp only [RpL] at h
    obtain ⟨v, r, rfl, h1, h2⟩ := h
    exact RpL.cons h1 (RpL.take n h2)
theorem RpL.drop : ∀ {ds : List PyData} {vs : List V} (n : Nat), RpL K Z ds vs → RpL K Z (ds.drop n) (vs.drop n)
  | _, _, 0, h => h
  | [], _, n + 1, h => by
    simp only [RpL] at h
    subst h
    exact RpL.nil
  | x :: xs, _, n + 1, h => by
    simp only [RpL] at h
    obtain ⟨v, r, rfl, h1, h2⟩ := h
    exact RpL.drop n h2
theorem RpL.cut {ds : List PyData} {vs : List V} (h : RpL K Z ds vs) (lo hi : Option Int) : RpL K Z (Mi.cut ds lo hi) (cutV vs lo hi) := by
  unfold Mi.cut cutV
  rw [h.length]
  exact (h.drop _).take _
theorem RpL.reverse {ds : List PyData} {vs : List V} (h : RpL K Z ds vs) : RpL K Z ds.reverse vs.reverse := by
  induction ds generalizing vs with
  | nil =>
    simp only [RpL] at h
    subst h
    exact RpL.nil
  | cons x xs ih =>
    simp only [RpL] at h
    obtain ⟨v, r, rfl, h1, h2⟩ := h
    rw [List.reverse_cons, List.reverse_cons]
    exact (ih h2).append (RpL.cons h1 RpL.nil)
theorem RpL.rep {ds : List PyData} {vs : List V} (h : RpL K Z ds vs) : ∀ n : Nat, RpL K Z (repL n ds) (List.replicate n vs).flatten
  | 0 => RpL.nil
  | n + 1 => by
    unfold repL
    rw [List.replicate_succ, List.replicate_succ, List.flatten_cons, List.flatten_cons]
    exact h.append (RpL.rep h n)
theorem RpL.set {ds : List PyData} {vs : List V} (h : RpL K Z ds vs) {x : PyData} {v : V} (hx : Rp K Z x v) : ∀ k : Nat, RpL K Z (ds.set k x) (vs.set k v) := by
  induction ds generalizing vs with
  | nil =>
    intro k
    simp only [RpL] at h
    subst h
    exact RpL.nil
  | cons y ys ih =>
    intro k
    simp only [RpL] at h
    obtain ⟨w, r, rfl, h1, h2⟩ := h
    cases k with
    | zero => exact RpL.cons hx h2
    | succ k => exact RpL.cons h1 (ih h2 k)
theorem RpL.ints : ∀ {ds : List PyData} {vs : List V} {ns : List Int}, RpL K Z ds vs → intsOf ds = some ns → vs = ns.map V.int
  | [], _, ns, h, e => by
    simp only [RpL] at h
    simp only [intsOf, Option.some.injEq] at e
    subst h; subst e; rfl
  | x :: xs, _, ns, h, e => by
    simp only [RpL] at h
    obtain ⟨v, r, rfl, h1, h2⟩ := h
    cases x with
    | int i =>
      simp only [intsOf, Option.map_eq_some_iff] at e
      obtain ⟨ms, e1, rfl⟩ := e
      rw [RpL.ints h2 e1]
      simp only [Rp] at h1
      rw [h1]; rfl
    | _ => simp [intsOf] at e
theorem RpL.bools : ∀ {ds : List PyData} {vs : List V} {ns : List Bool}, RpL K Z ds vs → boolsOf ds = some ns → vs = ns.map V.bl
  | [], _, ns, h, e => by
    simp only [RpL] at h
    simp only [boolsOf, Option.some.injEq] at e
    subst h; subst e; rfl
  | x :: xs, _, ns, h, e => by
    simp only [RpL] at h
    obtain ⟨v, r, rfl, h1, h2⟩ := h
    cases x with
    | bool i =>
      simp only [boolsOf, Option.map_eq_some_iff] at e
      obtain ⟨ms, e1, rfl⟩ := e
      rw [RpL.bools h2 e1]
      simp only [Rp] at h1
      rw [h1]; rfl
    | _ => simp [boolsOf] at e
end

/-! ### the two heaps -/
structure Gh where
  Z : Hp
  ι : List Addr

def ObR (K : PySem.W.Frag) (Z H : Hp) (a : Addr) : Ob → Prop
  | .lst xs => ∃ vs, H a = some (.lst vs) ∧ RpL K Z xs vs

structure Sim (K : PySem.W.Frag) (g : Gh) (h : Sh) (H : Hp) : Prop where
  sub : ∀ a o, g.Z a = some o → H a = some o
  nd : g.ι.Nodup
  len : g.ι.length = h.length
  out : ∀ a ∈ g.ι, g.Z a = none
  obj : ∀ (n : Nat) o, h[n]? = some o → ∃ a, g.ι[n]? = some a ∧ ObR K g.Z H a o

def VlR (K : PySem.W.Frag) (g : Gh) : Vl → V → Prop
  | .d x, v => Rp K g.Z x v
  | .ref n, v => ∃ a, g.ι[n]? = some a ∧ v = .ref a
  | .fn _, _ => False
  | .scr xs, v => ∃ a, v = .ref a ∧ SqL K g.Z a (xs.map V.int)

/-- .. or a list that the frame alone holds -/
def PkR (K : PySem.W.Frag) (g : Gh) (H : Hp) (x : Vl) (v : V) : Prop :=
  VlR K g x v ∨ ∃ xs a vs, x = .d (.list xs) ∧ v = .ref a ∧ H a = some (.lst vs) ∧ a ∉ g.ι ∧ RpL K g.Z xs vs

/-- from one state to a later one -/
structure Pres (g : Gh) (H : Hp) (g' : Gh) (H' : Hp) : Prop where
  z : ∀ a o, g.Z a = some o → g'.Z a = some o
  i : ∃ t, g'.ι = g.ι ++ t
  k : ∀ a o, H a = some o → a ∉ g.ι → H' a = some o ∧ a ∉ g'.ι ∧ (g.Z a = none → g'.Z a = none)

section
variable {K : PySem.W.Frag} {g g' g'' : Gh} {H H' H'' : Hp} {h h' : Sh}
theorem Pres.refl : Pres g H g H := ⟨fun _ _ e => e, ⟨[], (List.append_nil _).symm⟩, fun _ _ e n => ⟨e, n, id⟩⟩
theorem Pres.trans (p : Pres g H g' H') (q : Pres g' H' g'' H'') : Pres g H g'' H'' := by
  refine ⟨fun a o e => q.z a o (p.z a o e), ?_, fun a o e n => ?_⟩
  · obtain ⟨t, e⟩ := p.i
    obtain ⟨u, f⟩ := q.i
    exact ⟨t ++ u, by rw [f, e, List.append_assoc]⟩
  · obtain ⟨e1, n1, z1⟩ := p.k a o e n
    obtain ⟨e2, n2, z2⟩ := q.k a o e1 n1
    exact ⟨e2, n2, fun z => z2 (z1 z)⟩
theorem Pres.ix (p : Pres g H g' H') {n : Nat} {a : Addr} (e : g.ι[n]? = some a) : g'.ι[n]? = some a := by
  obtain ⟨t, f⟩ := p.i
  rw [f, List.getElem?_append_left (List.getElem?_eq_some_iff.mp e).1]
  exact e
theorem VlR.mono (p : Pres g H g' H') {x : Vl} {v : V} (r : VlR K g x v) : VlR K g' x v := by
  cases x with
  | d x => exact Rp.mono p.z x v r
  | ref n =>
    obtain ⟨a, e, rfl⟩ := r
    exact ⟨a, p.ix e, rfl⟩
  | fn n => exact r
  | scr xs =>
    obtain ⟨a, e, q⟩ := r
    exact ⟨a, e, sqL_mono p.z q⟩
theorem PkR.mono (p : Pres g H g' H') {x : Vl} {v : V} (r : PkR K g H x v) : PkR K g' H' x v := by
  rcases r with r | ⟨xs, a, vs, e, e2, hH, n, r⟩
  · exact .inl (r.mono p)
  · obtain ⟨k1, k2, _⟩ := p.k a _ hH n
    exact .inr ⟨xs, a, vs, e, e2, k1, k2, RpL.mono p.z xs vs r⟩
theorem Sim.tracked (s : Sim K g h H) {a : Addr} (m : a ∈ g.ι) : ∃ u, H a = some u := by
  obtain ⟨n, e⟩ := List.getElem?_of_mem m
  have hn : n < h.length := by
    rw [← s.len]
    exact (List.getElem?_eq_some_iff.mp e).1
  obtain ⟨b, e2, r⟩ := s.obj n _ (List.getElem?_eq_getElem hn)
  rw [e] at e2
  cases e2
  revert r
  cases h[n] with
  | lst xs =>
    rintro ⟨vs, q, _⟩
    exact ⟨_, q⟩
/-- a new thing that never changes -/
theorem Sim.frozen (s : Sim K g h H) {p : Addr} (np : H p = none) (o : HO) : Sim K ⟨upd g.Z p o, g.ι⟩ h (upd H p o) ∧ Pres g H ⟨upd g.Z p o, g.ι⟩ (upd H p o) := by
  have zp : g.Z p = none := by
    cases e : g.Z p with
    | none => rfl
    | some u =>
      have := s.sub _ _ e
      rw [np] at this; cases this
  have nι : p ∉ g.ι := fun m => by
    obtain ⟨vs, e⟩ := s.tracked m
    rw [np] at e; cases e
  have zm : ∀ a u, g.Z a = some u → upd g.Z p o a = some u := fun a u e => by
    rw [upd_ne (fun z => by rw [z, zp] at e; cases e)]
    exact e
  refine ⟨⟨fun a u e => ?_, s.nd, s.len, fun a m => ?_, fun n u e => ?_⟩, zm, ⟨[], (List.append_nil _).symm⟩, fun a u e n => ?_⟩
  · have e' : upd g.Z p o a = some u := e
    by_cases ha : a = p
    · subst ha
      rw [upd_same] at e' ⊢
      exact e'
    · rw [upd_ne ha] at e' ⊢
      exact s.sub _ _ e'
  · show upd g.Z p o a = none
    have ha : a ≠ p := fun z => nι (z ▸ m)
    rw [upd_ne ha]
    exact s.out a m
  · obtain ⟨a, e1, r⟩ := s.obj n u e
    refine ⟨a, e1, ?_⟩
    cases u with
    | lst xs =>
      obtain ⟨vs, q, r⟩ := r
      exact ⟨vs, by rw [upd_ne (fun z => by rw [z, np] at q; cases q)]; exact q, RpL.mono zm xs vs r⟩
  · have ha : a ≠ p := fun z => by rw [z, np] at e; cases e
    refine ⟨by rw [upd_ne ha]; exact e, n, fun z => ?_⟩
    show upd g.Z p o a = none
    rw [upd_ne ha]
    exact z
/-- a new list of the heap -/
theorem Sim.pushed (s : Sim K g h H) {p : Addr} (np : H p = none) {xs : List PyData} {vs : List V} (r : RpL K g.Z xs vs) :
    Sim K ⟨g.Z, g.ι ++ [p]⟩ (h ++ [.lst xs]) (upd H p (.lst vs)) ∧ Pres g H ⟨g.Z, g.ι ++ [p]⟩ (upd H p (.lst vs)) := by
  have nι : p ∉ g.ι := fun m => by
    obtain ⟨vs, e⟩ := s.tracked m
    rw [np] at e; cases e
  have zp : g.Z p = none := by
    cases e : g.Z p with
    | none => rfl
    | some u =>
      have := s.sub _ _ e
      rw [np] at this; cases this
  refine ⟨⟨fun a u e => ?_, ?_, ?_, fun a m => ?_, fun n u e => ?_⟩, fun _ _ e => e, ⟨[p], rfl⟩, fun a u e n => ?_⟩
  · rw [upd_ne (fun z => by rw [z] at e; rw [zp] at e; cases e)]
    exact s.sub _ _ e
  · rw [List.nodup_append]
    refine ⟨s.nd, by simp, fun a m b mb => ?_⟩
    have : b = p := by simpa using mb
    subst this
    exact fun z => nι (z ▸ m)
  · rw [List.length_append, List.length_append, s.len]
    rfl
  · rcases List.mem_append.mp m with m | m
    · exact s.out a m
    · have : a = p := by simpa using m
      subst this
      exact zp
  · by_cases hn : n < h.length
    · rw [List.getElem?_append_left hn] at e
      obtain ⟨a, e1, r'⟩ := s.obj n u e
      refine ⟨a, ?_, ?_⟩
      · show (g.ι ++ [p])[n]? = some a
        rw [List.getElem?_append_left (by rw [s.len]; exact hn)]
        exact e1
      · cases u with
        | lst ys =>
          obtain ⟨ws, q, r'⟩ := r'
          exact ⟨ws, by rw [upd_ne (fun z => by rw [z, np] at q; cases q)]; exact q, r'⟩
    · rw [List.getElem?_append_right (Nat.le_of_not_lt hn)] at e
      have h0 : n - h.length = 0 := by
        by_cases z : n - h.length = 0
        · exact z
        · rw [List.getElem?_eq_none (by simp; omega)] at e
          cases e
      rw [h0] at e
      simp at e
      subst e
      have hn2 : n = h.length := by omega
      refine ⟨p, ?_, vs, upd_same, r⟩
      show (g.ι ++ [p])[n]? = some p
      rw [hn2, ← s.len, List.getElem?_append_right (Nat.le_refl _), Nat.sub_self]
      rfl
  · have ha : a ≠ p := fun z => by rw [z, np] at e; cases e
    refine ⟨by rw [upd_ne ha]; exact e, fun m => ?_, id⟩
    rcases List.mem_append.mp m with m | m
    · exact n m
    · exact ha (by simpa using m)
/-- a list of the heap, changed -/
theorem Sim.write (s : Sim K g h H) {n : Nat} {a : Addr} (e : g.ι[n]? = some a) {xs : List PyData} {vs : List V} (r : RpL K g.Z xs vs) :
    Sim K g (h.set n (.lst xs)) (upd H a (.lst vs)) ∧ Pres g H g (upd H a (.lst vs)) := by
  have m : a ∈ g.ι := List.mem_of_getElem? e
  have hn : n < h.length := by
    rw [← s.len]
    exact (List.getElem?_eq_some_iff.mp e).1
  refine ⟨⟨fun b u q => ?_, s.nd, by rw [List.length_set]; exact s.len, s.out, fun k u q => ?_⟩, fun _ _ z => z, ⟨[], (List.append_nil _).symm⟩, fun b u q nb => ⟨?_, nb, id⟩⟩
  · rw [upd_ne (fun z => by rw [z, s.out a m] at q; cases q)]
    exact s.sub _ _ q
  · by_cases hk : k = n
    · subst hk
      rw [List.getElem?_set_self hn] at q
      cases q
      exact ⟨a, e, vs, upd_same, r⟩
    · rw [List.getElem?_set_ne (Ne.symm hk)] at q
      obtain ⟨b, e1, r'⟩ := s.obj k u q
      refine ⟨b, e1, ?_⟩
      have hb : b ≠ a := fun z => by
        subst z
        obtain ⟨i1, f1⟩ := List.getElem?_eq_some_iff.mp e
        obtain ⟨i2, f2⟩ := List.getElem?_eq_some_iff.mp e1
        exact hk ((List.getElem_inj s.nd).mp (f2.trans f1.symm))
      cases u with
      | lst ys =>
        obtain ⟨ws, q2, r2⟩ := r'
        exact ⟨ws, by rw [upd_ne hb]; exact q2, r2⟩
  · have hb : b ≠ a := fun z => nb (z ▸ m)
    rw [upd_ne hb]
    exact q
end

/-! ### names -/
def SlR (K : PySem.W.Frag) (g : Gh) (H : Hp) : Sl → Option V → Prop
  | .no, _ => True
  | .v x, o => ∃ v, o = some v ∧ VlR K g x v
  | .own xs, o => ∃ a vs, o = some (.ref a) ∧ H a = some (.lst vs) ∧ g.Z a = none ∧ a ∉ g.ι ∧ RpL K g.Z xs vs

structure EnR (K : PySem.W.Frag) (g : Gh) (H : Hp) (env : En) (σ : Sg) : Prop where
  len : env.length = σ.length
  at_ : ∀ (i : Nat) s, env[i]? = some s → ∃ o, σ[i]? = some o ∧ SlR K g H s o
  dist : ∀ (i j : Nat) xs ys a, env[i]? = some (.own xs) → env[j]? = some (.own ys) → σ[i]? = some (some (.ref a)) → σ[j]? = some (some (.ref a)) → i = j

section
variable {K : PySem.W.Frag} {g g' : Gh} {H H' : Hp} {h h' : Sh} {env : En} {σ : Sg}
theorem SlR.mono (p : Pres g H g' H') {s : Sl} {o : Option V} (r : SlR K g H s o) : SlR K g' H' s o := by
  cases s with
  | no => trivial
  | v x =>
    obtain ⟨v, e, r⟩ := r
    exact ⟨v, e, r.mono p⟩
  | own xs =>
    obtain ⟨a, vs, e, hH, z, n, r⟩ := r
    obtain ⟨k1, k2, k3⟩ := p.k a _ hH n
    exact ⟨a, vs, e, k1, k3 z, k2, RpL.mono p.z xs vs r⟩
theorem EnR.mono (p : Pres g H g' H') (r : EnR K g H env σ) : EnR K g' H' env σ :=
  ⟨r.len, fun i s e => let ⟨o, e2, q⟩ := r.at_ i s e; ⟨o, e2, q.mono p⟩, r.dist⟩
/-- a name set to a value -/
theorem EnR.set (r : EnR K g H env σ) {i : Nat} {x : Vl} {v : V} (hx : VlR K g x v) : EnR K g H (env.set i (.v x)) (σ.set i (some v)) := by
  refine ⟨by rw [List.length_set, List.length_set]; exact r.len, fun j s e => ?_, fun j k xs ys a e1 e2 e3 e4 => ?_⟩
  · by_cases hj : j = i
    · subst hj
      have hl : j < env.length := by
        have := (List.getElem?_eq_some_iff.mp e).1
        rw [List.length_set] at this
        exact this
      rw [List.getElem?_set_self hl] at e
      cases e
      refine ⟨some v, ?_, v, rfl, hx⟩
      rw [List.getElem?_set_self (by rw [← r.len]; exact hl)]
    · rw [List.getElem?_set_ne (Ne.symm hj)] at e
      obtain ⟨o, q1, q2⟩ := r.at_ j s e
      exact ⟨o, by rw [List.getElem?_set_ne (Ne.symm hj)]; exact q1, q2⟩
  · have hj : j ≠ i := fun z => by
      subst z
      have hl : j < env.length := by
        have := (List.getElem?_eq_some_iff.mp e1).1
        rw [List.length_set] at this
        exact this
      rw [List.getElem?_set_self hl] at e1
      cases e1
    have hk : k ≠ i := fun z => by
      subst z
      have hl : k < env.length := by
        have := (List.getElem?_eq_some_iff.mp e2).1
        rw [List.length_set] at this
        exact this
      rw [List.getElem?_set_self hl] at e2
      cases e2
    rw [List.getElem?_set_ne (Ne.symm hj)] at e1 e3
    rw [List.getElem?_set_ne (Ne.symm hk)] at e2 e4
    exact r.dist j k xs ys a e1 e2 e3 e4
end
end Mi
/-! Mi: what it means that the reader's result is the program's. -/
namespace Mi
open PySem PySem.Spec PyProof.Rows L2

/-- the program beside the tables -/
structure Pg where
  P : Program
  w : World
  K : PySem.W.Frag
  mg : Str → Option Value
  base : Heap
  cl : Nat → Option Addr
  fld : Nat → Option Str

def ErR (pg : Pg) (e : Er) (cls : Value) (dx : Option Addr) (H : Hp) (g : Gh) : Prop :=
  ∃ C, pg.cl e.c = some C ∧ cls = .ref C ∧ (match e.v with
    | none => dx = none
    | some d => ∃ a f v, dx = some a ∧ pg.fld e.c = some f ∧ H a = some (.xd [(f, v)]) ∧ Rp pg.K g.Z d v)

def SR {α β : Type} (pg : Pg) (X : Cx) (σ : Sg) (g : Gh) (H : Hp) (Rl : Gh → Hp → α → β → Prop) (r : R α) (w : (β → Hp → Prop) → Prop) : Prop :=
  match r with
  | .ok x h' => ∀ Q : β → Hp → Prop, (∀ v H' g', Sim pg.K g' h' H' → Pres g H g' H' → Rl g' H' x v → Q v H') → w Q
  | .ex e h' => ∀ W : WX, Takes X W → (∀ cls dx H' g', Sim pg.K g' h' H' → Pres g H g' H' → ErR pg e cls dx H' g' → W cls dx σ H') → ∀ Q, w Q
  | .no => True

section
variable {pg : Pg} {X : Cx} {σ : Sg} {g : Gh} {H : Hp} {α β γ δ : Type}
theorem SR.bind {Rl : Gh → Hp → α → β → Prop} {R2 : Gh → Hp → γ → δ → Prop} {r : R α} {f : α → Sh → R γ} {w : (β → Hp → Prop) → Prop} {w2 : β → Hp → (δ → Hp → Prop) → Prop} {w3 : (δ → Hp → Prop) → Prop}
    (h1 : SR pg X σ g H Rl r w) (comb : ∀ Q, w (fun b H' => w2 b H' Q) → w3 Q)
    (h2 : ∀ a h' b H' g', r = .ok a h' → Sim pg.K g' h' H' → Pres g H g' H' → Rl g' H' a b → SR pg X σ g' H' R2 (f a h') (w2 b H')) : SR pg X σ g H R2 (r.bind f) w3 := by
  cases r with
  | no => exact trivial
  | ex e h' => exact fun W tk hW Q => comb Q (h1 W tk hW _)
  | ok a h' =>
    show SR pg X σ g H R2 (f a h') w3
    have h2' := h2 a h'
    cases hf : f a h' with
    | no => exact trivial
    | ok y h2 =>
      refine fun Q hQ => comb Q (h1 _ fun b H' g' s p r => ?_)
      have := h2' b H' g' rfl s p r
      rw [hf] at this
      exact this Q fun v H2 g2 s2 p2 r2 => hQ v H2 g2 s2 (p.trans p2) r2
    | ex e h2 =>
      refine fun W tk hW Q => comb Q (h1 _ fun b H' g' s p r => ?_)
      have := h2' b H' g' rfl s p r
      rw [hf] at this
      exact this W tk (fun cls dx H2 g2 s2 p2 r2 => hW cls dx H2 g2 s2 (p.trans p2) r2) Q
theorem SR.imp {Rl : Gh → Hp → α → β → Prop} {r : R α} {w w' : (β → Hp → Prop) → Prop} (h : SR pg X σ g H Rl r w) (c : ∀ Q, w Q → w' Q) : SR pg X σ g H Rl r w' := by
  cases r with
  | no => exact trivial
  | ex e h' => exact fun W tk hW Q => c Q (h W tk hW Q)
  | ok a h' => exact fun Q hQ => c Q (h Q hQ)
theorem SR.weak {Rl R2 : Gh → Hp → α → β → Prop} {r : R α} {w : (β → Hp → Prop) → Prop} (h : SR pg X σ g H Rl r w) (c : ∀ g' H' a b, Rl g' H' a b → R2 g' H' a b) : SR pg X σ g H R2 r w := by
  cases r with
  | no => exact trivial
  | ex e h' => exact h
  | ok a h' => exact fun Q hQ => h Q fun v H' g' s p q => hQ v H' g' s p (c _ _ _ _ q)
/-- .. carried back to an earlier state -/
theorem SR.back {Rl : Gh → Hp → α → β → Prop} {r : R α} {w : (β → Hp → Prop) → Prop} {g0 : Gh} {H0 : Hp} (p : Pres g0 H0 g H) (h : SR pg X σ g H Rl r w) : SR pg X σ g0 H0 Rl r w := by
  cases r with
  | no => exact trivial
  | ex e h' => exact fun W tk hW Q => h W tk (fun cls dx H' g' s q => hW cls dx H' g' s (p.trans q)) Q
  | ok a h' => exact fun Q hQ => h Q fun v H' g' s q => hQ v H' g' s (p.trans q)
/-- a value at once -/
theorem SR.pure {Rl : Gh → Hp → α → β → Prop} {x : α} {h : Sh} {w : (β → Hp → Prop) → Prop} {b : β} (s : Sim pg.K g h H) (r : Rl g H x b) (c : ∀ Q : β → Hp → Prop, Q b H → w Q) : SR pg X σ g H Rl (.ok x h) w :=
  fun Q hQ => c Q (hQ b H g s Pres.refl r)
end

/-! ### the semantic readings -/
def wE (X : Cx) (e : Expr) (σ : Sg) (H : Hp) (Q : VK) : Prop := ∀ (pins : List (Addr × Obj)) (s : Shared), Inv X pins σ H s → wpAny (model X.prog X.w) X.A (eval e X.env) (EP X pins σ Q) X.xe s
def wT (X : Cx) (e : Expr) (σ : Sg) (H : Hp) (Q : Bool → Hp → Prop) : Prop := ∀ (pins : List (Addr × Obj)) (s : Shared), Inv X pins σ H s → wpAny (model X.prog X.w) X.A (isTrue e X.env (eval e X.env)) (TP X pins σ Q) X.xe s
def wA (X : Cx) (es : List Expr) (σ : Sg) (H : Hp) (Q : List V → Hp → Prop) : Prop := ∀ (pos : Pos) (pins : List (Addr × Obj)) (s : Shared), Inv X pins σ H s → wpAny (model X.prog X.w) X.A (spliced (backTo pos (starEach es X.env))) (AP X pins σ Q) X.xe s
def wS (X : Cx) (st : Stmt) (D : Ends) (σ : Sg) (H : Hp) : Prop := ∀ (pins : List (Addr × Obj)) (s : Shared), Inv X pins σ H s → wpAny (model X.prog X.w) X.A (exec st X.env) (SP X pins D) X.xe s
def wSs (X : Cx) (st : List Stmt) (D : Ends) (σ : Sg) (H : Hp) : Prop := ∀ (pins : List (Addr × Obj)) (s : Shared), Inv X pins σ H s → wpAny (model X.prog X.w) X.A (execs st X.env) (SP X pins D) X.xe s
def wO (X : Cx) (f : Value → Value → Sem Value) (σ : Sg) (x y : V) (H : Hp) (Q : VK) : Prop :=
  ∀ (pins : List (Addr × Obj)) (s : Shared) (v u : Value), Inv X pins σ H s → RelV x v → RelV y u → wpAny (model X.prog X.w) X.A (f v u) (EP X pins σ Q) X.xe s
def wC (X : Cx) (f : Value) (σ : Sg) (vs : List V) (H : Hp) (Q : VK) : Prop :=
  ∀ (pins : List (Addr × Obj)) (s : Shared) (us : List Value), Inv X pins σ H s → Vals vs us → wpAny (model X.prog X.w) X.A (call f us) (EP X pins σ Q) X.xe s

section
variable {X : Cx} {e a b : Expr} {es : List Expr} {σ : Sg} {H : Hp}
theorem pe_w : PE X e (wE X e) := ⟨fun pins s σ H Q I h => h pins s I⟩
theorem pt_w : PT X e (wT X e) := ⟨fun pins s σ H Q I h => h pins s I⟩
theorem pa_w : PA X es (wA X es) := ⟨fun pos pins s σ H Q I h => h pos pins s I⟩
theorem ps_w {st : Stmt} : PS X st (wS X st) := ⟨fun pins s σ H D I h => h pins s I⟩
theorem pss_w {st : List Stmt} : PSs X st (wSs X st) := ⟨fun pins s σ H D I h => h pins s I⟩
theorem wE_of {t : TE} (p : PE X e t) {Q : VK} (h : t σ H Q) : wE X e σ H Q := fun pins s I => p.run pins s σ H Q I h
theorem wT_of {t : TT} (p : PT X e t) {Q : Bool → Hp → Prop} (h : t σ H Q) : wT X e σ H Q := fun pins s I => p.run pins s σ H Q I h
theorem wA_of {t : TA} (p : PA X es t) {Q : List V → Hp → Prop} (h : t σ H Q) : wA X es σ H Q := fun pos pins s I => p.run pos pins s σ H Q I h
theorem wS_of {st : Stmt} {t : TS} (p : PS X st t) {D : Ends} (h : t D σ H) : wS X st D σ H := fun pins s I => p.run pins s σ H D I h
theorem wSs_of {st : List Stmt} {t : TS} (p : PSs X st t) {D : Ends} (h : t D σ H) : wSs X st D σ H := fun pins s I => p.run pins s σ H D I h
theorem wO_of {f : Value → Value → Sem Value} {r : L2.R2} (p : OpR X f r) {x y : V} {Q : VK} (h : r x y H Q) : wO X f σ x y H Q := fun pins s v u I rx ry => p pins s σ H x y v u Q I rx ry h
theorem opR_w {f : Value → Value → Sem Value} : OpR X f (fun x y H Q => ∀ σ, wO X f σ x y H Q) := fun pins s σ H x y v u Q I rx ry h => h σ pins s v u I rx ry
theorem wC_of {f : Value} {r : List V → Hp → VK → Prop} (p : CallR X f r) {vs : List V} {Q : VK} (h : r vs H Q) : wC X f σ vs H Q := fun pins s us I rv => p pins s σ H vs us Q I rv h
theorem wE_mono {Q Q' : VK} (h : wE X e σ H Q) (c : ∀ v H, Q v H → Q' v H) : wE X e σ H Q' := fun pins s I =>
  thn (h pins s I) fun u s1 ⟨x, H1, I1, r1, q1⟩ => ⟨x, H1, I1, r1, c _ _ q1⟩
theorem wT_mono {Q Q' : Bool → Hp → Prop} (h : wT X e σ H Q) (c : ∀ v H, Q v H → Q' v H) : wT X e σ H Q' := fun pins s I =>
  thn (h pins s I) fun u s1 ⟨H1, I1, q1⟩ => ⟨H1, I1, c _ _ q1⟩
end

/-! ### operators on data -/
section
variable {pg : Pg} {X : Cx} {g : Gh} {H : Hp} {h : Sh} {σ : Sg}
def VlRel (K : PySem.W.Frag) : Gh → Hp → Vl → V → Prop := fun g _ x v => VlR K g x v
def PkRel (K : PySem.W.Frag) : Gh → Hp → Vl → V → Prop := fun g H x v => PkR K g H x v

/-- data that may be the frame's own list -/
def PkD (K : PySem.W.Frag) (g : Gh) (H : Hp) (x : PyData) (v : V) : Prop := PkR K g H (.d x) v
theorem PkD.int {K : PySem.W.Frag} {i : Int} {v : V} (r : PkD K g H (.int i) v) : v = .int i := by
  rcases r with r | ⟨xs, a, vs, e, _⟩
  · simpa only [VlR, Rp] using r
  · cases e
theorem PkD.bool {K : PySem.W.Frag} {i : Bool} {v : V} (r : PkD K g H (.bool i) v) : v = .bl i := by
  rcases r with r | ⟨xs, a, vs, e, _⟩
  · simpa only [VlR, Rp] using r
  · cases e
theorem PkD.none {K : PySem.W.Frag} {v : V} (r : PkD K g H .none v) : v = .non := by
  rcases r with r | ⟨xs, a, vs, e, _⟩
  · simpa only [VlR, Rp] using r
  · cases e
theorem PkD.str {K : PySem.W.Frag} {i : Str} {v : V} (r : PkD K g H (.str i) v) : v = .str i := by
  rcases r with r | ⟨xs, a, vs, e, _⟩
  · simpa only [VlR, Rp] using r
  · cases e
theorem PkD.tuple {K : PySem.W.Frag} {xs : List PyData} {v : V} (s : Sim K g h H) (r : PkD K g H (.tuple xs) v) : ∃ a vs, v = .ref a ∧ SqT K H a vs ∧ RpL K g.Z xs vs := by
  rcases r with r | ⟨xs, a, vs, e, _⟩
  · simp only [VlR, Rp] at r
    obtain ⟨a, vs, e, q, r⟩ := r
    exact ⟨a, vs, e, sqT_mono s.sub q, r⟩
  · cases e
theorem PkD.list {K : PySem.W.Frag} {xs : List PyData} {v : V} (s : Sim K g h H) (r : PkD K g H (.list xs) v) : ∃ a vs, v = .ref a ∧ H a = some (.lst vs) ∧ RpL K g.Z xs vs := by
  rcases r with r | ⟨ys, a, vs, e, e2, hH, _, r⟩
  · simp only [VlR, Rp] at r
    obtain ⟨a, vs, e, q, r⟩ := r
    exact ⟨a, vs, e, s.sub _ _ q, r⟩
  · cases e
    exact ⟨a, vs, e2, hH, r⟩
theorem szL : SZ = sizeLine := by rw [sizeLine_eq]; rfl

theorem ok_int {Q : VK} {i : Int} (s : Sim pg.K g h H) (hQ : ∀ v H' g', Sim pg.K g' h H' → Pres g H g' H' → VlRel pg.K g' H' (.d (.int i)) v → Q v H') : Q (.int i) H := hQ _ _ _ s Pres.refl (by simp only [VlRel, VlR, Rp])
theorem ok_bl {Q : VK} {i : Bool} (s : Sim pg.K g h H) (hQ : ∀ v H' g', Sim pg.K g' h H' → Pres g H g' H' → VlRel pg.K g' H' (.d (.bool i)) v → Q v H') : Q (.bl i) H := hQ _ _ _ s Pres.refl (by simp only [VlRel, VlR, Rp])
theorem ok_str {Q : VK} {i : Str} (s : Sim pg.K g h H) (hQ : ∀ v H' g', Sim pg.K g' h H' → Pres g H g' H' → VlRel pg.K g' H' (.d (.str i)) v → Q v H') : Q (.str i) H := hQ _ _ _ s Pres.refl (by simp only [VlRel, VlR, Rp])
/-- a new tuple, a new list -/
theorem ok_tup {Q : VK} {xs : List PyData} {vs : List V} (s : Sim pg.K g h H) (r : RpL pg.K g.Z xs vs) (hQ : ∀ v H' g', Sim pg.K g' h H' → Pres g H g' H' → VlRel pg.K g' H' (.d (.tuple xs)) v → Q v H') : ∀ p, H p = none → Q (.ref p) (upd H p (.tup vs)) := fun p np => by
  obtain ⟨s', p'⟩ := s.frozen np (.tup vs)
  refine hQ _ _ _ s' p' ?_
  simp only [VlRel, VlR, Rp]
  exact ⟨p, vs, rfl, .of (by show upd g.Z p _ p = _; rw [upd_same]), RpL.mono p'.z _ _ r⟩
theorem ok_lst {Q : VK} {xs : List PyData} {vs : List V} (s : Sim pg.K g h H) (r : RpL pg.K g.Z xs vs) (hQ : ∀ v H' g', Sim pg.K g' h H' → Pres g H g' H' → VlRel pg.K g' H' (.d (.list xs)) v → Q v H') : ∀ p, H p = none → Q (.ref p) (upd H p (.lst vs)) := fun p np => by
  obtain ⟨s', p'⟩ := s.frozen np (.lst vs)
  refine hQ _ _ _ s' p' ?_
  simp only [VlRel, VlR, Rp]
  exact ⟨p, vs, rfl, by show upd g.Z p _ p = _; rw [upd_same], RpL.mono p'.z _ _ r⟩
/-- what stands already -/
theorem ok_it {Q : VK} {x : PyData} {v : V} (s : Sim pg.K g h H) (r : Rp pg.K g.Z x v) (hQ : ∀ v H' g', Sim pg.K g' h H' → Pres g H g' H' → VlRel pg.K g' H' (.d x) v → Q v H') : Q v H := hQ _ _ _ s Pres.refl r

theorem log2_le_of_lt {n k : Nat} (h : n < 2 ^ k) (hk : 0 < k) : n.log2 < k := by
  by_cases h0 : n = 0
  · subst h0
    simpa using hk
  · exact (Nat.log2_lt h0).mpr h
theorem LIM_lt : LIM < 2 ^ 6650 := by unfold LIM; decide +kernel
theorem LIS_lt : LIS < 2 ^ 1900 := by unfold LIS; decide +kernel
theorem okI_log {i : Int} (h : okI i = true) : i.natAbs.log2 < 6650 := log2_le_of_lt (Nat.lt_trans (of_decide_eq_true h) LIM_lt) (by decide)
theorem okS_log {i : Int} (h : okS i = true) : i.natAbs.log2 < 1920 := Nat.lt_trans (log2_le_of_lt (Nat.lt_trans (of_decide_eq_true h) LIS_lt) (by decide)) (by decide)
end
end Mi
/-! Mi: operators on data are the program's. -/
namespace Mi
open PySem PySem.Spec PyProof.Rows L2
section
variable {pg : Pg} {X : Cx} {g : Gh} {H : Hp} {h : Sh} {σ : Sg}

theorem SR.lift {o : Option PyData} {w : (V → Hp → Prop) → Prop}
    (c : ∀ z, o = some z → ∀ Q : VK, (∀ v H' g', Sim pg.K g' h H' → Pres g H g' H' → VlRel pg.K g' H' (.d z) v → Q v H') → w Q) : SR pg X σ g H (VlRel pg.K) (lift o h) w := by
  cases o with
  | none => exact trivial
  | some z => exact c z rfl

/-! deep data -/
mutual
theorem Rp.dp {K : PySem.W.Frag} {Z H : Hp} (m : ∀ a o, Z a = some o → H a = some o) : ∀ (d : PyData) (v : V), d.canLay0 = true → Rp K Z d v → Dp K H v d
  | .none, _, _, r => by simp only [Rp] at r; subst r; exact .non
  | .bool b, _, _, r => by simp only [Rp] at r; subst r; exact .bl b
  | .int i, _, _, r => by simp only [Rp] at r; subst r; exact .int i
  | .str x, _, _, r => by simp only [Rp] at r; subst r; exact .str x
  | .list xs, _, c, r => by
    simp only [Rp] at r
    obtain ⟨a, vs, rfl, hz, r⟩ := r
    exact .lst (.of (m _ _ hz)) (RpL.dp m xs vs (by simpa only [PyData.canLay0] using c) r)
  | .tuple xs, _, c, r => by
    simp only [Rp] at r
    obtain ⟨a, vs, rfl, hz, r⟩ := r
    exact .tup (sqT_mono m hz) (RpL.dp m xs vs (by simpa only [PyData.canLay0] using c) r)
  | .dict _, _, c, _ => by simp [PyData.canLay0] at c
theorem RpL.dp {K : PySem.W.Frag} {Z H : Hp} (m : ∀ a o, Z a = some o → H a = some o) : ∀ (ds : List PyData) (vs : List V), PyData.canLayAll0 ds = true → RpL K Z ds vs → DpAll K H vs ds
  | [], _, _, r => by simp only [RpL] at r; subst r; exact .nil
  | x :: xs, _, c, r => by
    simp only [RpL] at r
    obtain ⟨v, t, rfl, h1, h2⟩ := r
    simp only [PyData.canLayAll0, Bool.and_eq_true] at c
    exact .cons (Rp.dp m x v c.1 h1) (RpL.dp m xs t c.2 h2)
end
theorem PkD.dp {x : PyData} {v : V} (s : Sim pg.K g h H) (c : x.canLay0 = true) (r : PkD pg.K g H x v) : Dp pg.K H v x := by
  rcases r with r | ⟨xs, a, vs, e, rfl, hH, _, r⟩
  · exact Rp.dp s.sub x v c r
  · cases e
    exact .lst (.of hH) (RpL.dp s.sub xs vs (by simpa only [PyData.canLay0] using c) r)

/-- flat data, by its abstract value -/
theorem PkD.flat {x : PyData} {v : V} (f : flatD x = true) (r : PkD pg.K g H x v) : (x = .none ∧ v = .non) ∨ (∃ b, x = .bool b ∧ v = .bl b) ∨ (∃ i, x = .int i ∧ v = .int i) ∨ ∃ t, x = .str t ∧ v = .str t := by
  cases x with
  | none => exact .inl ⟨rfl, r.none⟩
  | bool b => exact .inr (.inl ⟨b, rfl, r.bool⟩)
  | int i => exact .inr (.inr (.inl ⟨i, rfl, r.int⟩))
  | str t => exact .inr (.inr (.inr ⟨t, rfl, r.str⟩))
  | list _ => cases f
  | tuple _ => cases f
  | dict _ => cases f

theorem dec_refl {α : Type} [DecidableEq α] (a b : α) [BEq α] [LawfulBEq α] : (a == b) = decide (a = b) := by
  by_cases h : a = b
  · subst h; simp
  · simp [h]

/-- == and != where both are flat, or both of a plain shape -/
theorem eq_gen {x y : PyData} {vx vy : V} (hK : X.K = pg.K) (hu : X.A.units + 64 < cLine) (s : Sim pg.K g h H) (rx : PkD pg.K g H x vx) (ry : PkD pg.K g H y vy)
    (c : (flatD x && flatD y || SeqAt.shaped x && SeqAt.shaped y) = true) :
    (∀ Q : VK, Q (.bl (PyData.eqv x y)) H → wO X (compareOp .Eq) σ vx vy H Q) ∧ (∀ Q : VK, Q (.bl (!PyData.eqv x y)) H → wO X (compareOp .NotEq) σ vx vy H Q) := by
  have deep : SeqAt.shaped x = true → SeqAt.shaped y = true → (∀ Q : VK, Q (.bl (PyData.eqv x y)) H → wO X (compareOp .Eq) σ vx vy H Q) ∧ (∀ Q : VK, Q (.bl (!PyData.eqv x y)) H → wO X (compareOp .NotEq) σ vx vy H Q) := fun cx cy => by
    have dx := PkD.dp s (SeqAt.canLay_of_shaped cx) rx
    have dy := PkD.dp s (SeqAt.canLay_of_shaped cy) ry
    exact ⟨fun Q q => wO_of (op_eqD hu) ⟨x, y, by rw [hK]; exact dx, by rw [hK]; exact dy, cx, cy, q⟩, fun Q q => wO_of (op_neD hu) ⟨x, y, by rw [hK]; exact dx, by rw [hK]; exact dy, cx, cy, q⟩⟩
  rcases Bool.or_eq_true _ _ ▸ c with c | c
  · obtain ⟨fx, fy⟩ := Bool.and_eq_true _ _ ▸ c
    have sc : scal vx vy = true → decide (vx = vy) = PyData.eqv x y → (∀ Q : VK, Q (.bl (PyData.eqv x y)) H → wO X (compareOp .Eq) σ vx vy H Q) ∧ (∀ Q : VK, Q (.bl (!PyData.eqv x y)) H → wO X (compareOp .NotEq) σ vx vy H Q) := fun q e =>
      ⟨fun Q hq => wO_of op_eq ⟨q, by rw [e]; exact hq⟩, fun Q hq => wO_of op_ne ⟨q, by rw [e]; exact hq⟩⟩
    rcases rx.flat fx with ⟨rfl, rfl⟩ | ⟨b, rfl, rfl⟩ | ⟨i, rfl, rfl⟩ | ⟨t, rfl, rfl⟩ <;> rcases ry.flat fy with ⟨rfl, rfl⟩ | ⟨b', rfl, rfl⟩ | ⟨j, rfl, rfl⟩ | ⟨u, rfl, rfl⟩
    all_goals first
      | exact deep rfl rfl
      | exact sc rfl dec_str
      | (refine sc rfl ?_; simp only [PyData.eqv]; simp)
  · obtain ⟨cx, cy⟩ := Bool.and_eq_true _ _ ▸ c
    exact deep cx cy

theorem isEmpty_len {ds : List PyData} {vs : List V} {K : PySem.W.Frag} {Z : Hp} (r : RpL K Z ds vs) : (vs.length == 0) = ds.isEmpty := by
  rw [r.length]
  cases ds <;> rfl
/-- .. and where one is empty -/
theorem eq_ok {x y : PyData} {vx vy : V} (hK : X.K = pg.K) (hu : X.A.units + 64 < cLine) (s : Sim pg.K g h H) (rx : PkD pg.K g H x vx) (ry : PkD pg.K g H y vy) {b : Bool} (e : eqD x y = some b) :
    (∀ Q : VK, Q (.bl b) H → wO X (compareOp .Eq) σ vx vy H Q) ∧ (∀ Q : VK, Q (.bl (!b)) H → wO X (compareOp .NotEq) σ vx vy H Q) := by
  unfold eqD at e
  split at e
  · rename_i xs
    cases e
    obtain ⟨a, vs, rfl, hq, r⟩ := PkD.tuple s rx
    obtain ⟨a2, vs2, rfl, hq2, r2⟩ := PkD.tuple s ry
    simp only [RpL] at r2
    subst r2
    have go : ∀ {pins : List (Addr × Obj)} {s1 : Shared}, Inv X pins σ H s1 → ∃ its : List Value, its.length = vs.length ∧ s1.heap.IsTuple a its.toArray ∧ s1.heap.IsTuple a2 #[] := fun I => by
      obtain ⟨its, rv, ht, _⟩ := I.tuple (hK ▸ hq)
      obtain ⟨its2, rv2, ht2, _⟩ := I.tuple (hK ▸ hq2)
      cases rv2
      exact ⟨its, rv.length.symm, ht, ht2⟩
    refine ⟨fun Q q pins s1 v u I rv ru => ?_, fun Q q pins s1 v u I rv ru => ?_⟩
    · cases rv; cases ru
      obtain ⟨its, hl, h1, h2⟩ := go I
      refine SeqAt.RcAt.tuples (e := fun _ => true) h1 h2 (by omega) (fun j _ h2 => absurd h2 (Nat.not_lt_zero _)) _ _ _ _ ⟨.bl _, H, I, rfl, ?_⟩
      have : (((List.range (min its.toArray.size (#[] : Array Value).size)).all fun _ => true) && its.toArray.size == (#[] : Array Value).size) = xs.isEmpty := by
        rw [← isEmpty_len r, ← hl]
        simp
      rw [this]
      exact q
    · cases rv; cases ru
      obtain ⟨its, hl, h1, h2⟩ := go I
      refine SeqAt.RcNeAt.tuples (e := fun _ => true) h1 h2 (by omega) (fun j _ h2 => absurd h2 (Nat.not_lt_zero _)) _ _ _ _ ⟨.bl _, H, I, rfl, ?_⟩
      have : (((List.range (min its.toArray.size (#[] : Array Value).size)).all fun _ => true) && its.toArray.size == (#[] : Array Value).size) = xs.isEmpty := by
        rw [← isEmpty_len r, ← hl]
        simp
      rw [this]
      exact q
  · rename_i xs
    cases e
    obtain ⟨a, vs, rfl, hq, r⟩ := PkD.list s rx
    obtain ⟨a2, vs2, rfl, hq2, r2⟩ := PkD.list s ry
    simp only [RpL] at r2
    subst r2
    have go : ∀ {pins : List (Addr × Obj)} {s1 : Shared}, Inv X pins σ H s1 → ∃ its : List Value, its.length = vs.length ∧ s1.heap.IsList a its.toArray ∧ s1.heap.IsList a2 #[] := fun I => by
      obtain ⟨its, rv, ht, _⟩ := I.list (.of hq)
      obtain ⟨its2, rv2, ht2, _⟩ := I.list (.of hq2)
      cases rv2
      exact ⟨its, rv.length.symm, ht.isList, ht2.isList⟩
    have hx : ∀ {its : List Value}, its.length = vs.length → xs.isEmpty = (its.toArray.size == 0) := fun {its} hl => by
      rw [← isEmpty_len r, ← hl]
      simp
    refine ⟨fun Q q pins s1 v u I rv ru => ?_, fun Q q pins s1 v u I rv ru => ?_⟩
    · cases rv; cases ru
      obtain ⟨its, hl, h1, h2⟩ := go I
      rw [hx hl] at q
      by_cases h0 : its.toArray.size = 0
      · refine SeqAt.RcAt.lists (e := fun _ => true) h1 h2 h0 (by omega) (fun j _ h2 => absurd h2 (Nat.not_lt_zero _)) _ _ _ _ ⟨.bl _, H, I, rfl, ?_⟩
        rw [h0] at q ⊢
        exact q
      · refine SeqAt.RcAt.lists_lengths h1 h2 (by simpa using h0) (by omega) _ _ _ _ ⟨.bl _, H, I, rfl, ?_⟩
        have : (its.toArray.size == 0) = false := beq_eq_false_iff_ne.mpr h0
        rw [this] at q
        exact q
    · cases rv; cases ru
      obtain ⟨its, hl, h1, h2⟩ := go I
      rw [hx hl] at q
      by_cases h0 : its.toArray.size = 0
      · refine SeqAt.RcNeAt.lists (e := fun _ => true) h1 h2 h0 (by omega) (fun j _ h2 => absurd h2 (Nat.not_lt_zero _)) _ _ _ _ ⟨.bl _, H, I, rfl, ?_⟩
        rw [h0] at q ⊢
        exact q
      · refine SeqAt.RcNeAt.lists_lengths h1 h2 (by simpa using h0) (by omega) _ _ _ _ ⟨.bl _, H, I, rfl, ?_⟩
        have : (its.toArray.size == 0) = false := beq_eq_false_iff_ne.mpr h0
        rw [this] at q
        exact q
  · split at e
    · rename_i c
      cases e
      exact eq_gen hK hu s rx ry c
    · cases e

/-- in, not in -/
theorem RpL.flat {K : PySem.W.Frag} {Z : Hp} : ∀ {ds : List PyData} {vs : List V}, ds.all flatD = true → RpL K Z ds vs → vs.all flatV = true
  | [], _, _, r => by simp only [RpL] at r; subst r; rfl
  | x :: xs, _, c, r => by
    simp only [RpL] at r
    obtain ⟨v, t, rfl, h1, h2⟩ := r
    rw [List.all_cons, Bool.and_eq_true] at c ⊢
    refine ⟨?_, RpL.flat c.2 h2⟩
    cases x <;> first | (simp only [Rp] at h1; subst h1; rfl) | (have := c.1; cases this)

theorem eqV_eqv {K : PySem.W.Frag} {Z : Hp} {x y : PyData} {vx vy : V} (fx : flatD x = true) (fy : flatD y = true) (rx : Rp K Z x vx) (ry : Rp K Z y vy) : eqV vy vx = PyData.eqv y x := by
  cases x <;> cases y <;> first | (cases fx; done) | (cases fy; done) | (simp only [Rp] at rx ry; subst rx ry; rfl)
theorem inV_eq {K : PySem.W.Frag} {Z : Hp} {x : PyData} {vx : V} (fx : flatD x = true) (rx : Rp K Z x vx) : ∀ {ys : List PyData} {vs : List V}, ys.all flatD = true → RpL K Z ys vs → inV vx vs = ys.any fun y => PyData.eqv y x
  | [], _, _, r => by simp only [RpL] at r; subst r; rfl
  | y :: ys, _, c, r => by
    simp only [RpL] at r
    obtain ⟨v, t, rfl, h1, h2⟩ := r
    rw [List.all_cons, Bool.and_eq_true] at c
    show (eqV v vx || inV vx t) = _
    rw [List.any_cons, eqV_eqv fx c.1 rx h1, inV_eq fx rx c.2 h2]
theorem PkD.rp {x : PyData} {v : V} (f : flatD x = true) (r : PkD pg.K g H x v) : Rp pg.K g.Z x v := by
  rcases r with r | ⟨xs, a, vs, e, _⟩
  · exact r
  · cases e; cases f
theorem flatV_of {x : PyData} {v : V} (f : flatD x = true) (r : PkD pg.K g H x v) : flatV v = true := by
  rcases r.flat f with ⟨_, rfl⟩ | ⟨_, _, rfl⟩ | ⟨_, _, rfl⟩ | ⟨_, _, rfl⟩ <;> rfl
theorem in_ok {x y : PyData} {ys : List PyData} {vx vy : V} (hK : X.K = pg.K) (hu : X.A.units + 65 < cLine) (s : Sim pg.K g h H) (rx : PkD pg.K g H x vx) (ry : PkD pg.K g H y vy) (hy : y = .list ys ∨ y = .tuple ys) {b : Bool} (e : inD x ys = some b) :
    (∀ Q : VK, Q (.bl b) H → wO X (compareOp .In) σ vx vy H Q) ∧ (∀ Q : VK, Q (.bl (!b)) H → wO X (compareOp .NotIn) σ vx vy H Q) := by
  obtain ⟨p, vs, rfl, hq, r⟩ : ∃ p vs, vy = .ref p ∧ (SqL X.K H p vs ∨ SqT X.K H p vs) ∧ RpL pg.K g.Z ys vs := by
    rcases hy with rfl | rfl
    · obtain ⟨a, vs, e1, e2, r⟩ := PkD.list s ry
      exact ⟨a, vs, e1, .inl (.of e2), r⟩
    · obtain ⟨a, vs, e1, e2, r⟩ := PkD.tuple s ry
      exact ⟨a, vs, e1, .inr (hK ▸ e2), r⟩
  unfold inD at e
  split at e
  · rename_i c
    rw [Bool.and_eq_true] at c
    cases e
    have ei := inV_eq c.1 (PkD.rp c.1 rx) c.2 r
    have f1 := flatV_of c.1 rx
    have f2 := RpL.flat c.2 r
    exact ⟨fun Q q => wO_of op_in_seq ⟨p, vs, rfl, hq, f1, f2, by rw [ei]; exact q⟩, fun Q q => wO_of op_notIn_seq ⟨p, vs, rfl, hq, f1, f2, by rw [ei]; exact q⟩⟩
  · split at e
    · rename_i c
      rw [Bool.and_eq_true] at c
      cases e
      have dx := PkD.dp s (SeqAt.canLay_of_shaped c.1) rx
      have cl : PyData.canLayAll0 ys = true := by have := SeqAt.canLay_of_shaped c.2; simpa only [PyData.canLay0] using this
      have dy := RpL.dp s.sub ys vs cl r
      have rm : X.A.units + 1 + min (PyData.depthAll ys) x.depth < cLine := by
        have h1 := SeqAt.depth_of_shaped c.1
        have h2 := Nat.min_le_right (PyData.depthAll ys) x.depth
        omega
      rcases hq with hq | hq
      · exact ⟨fun Q q => wO_of (op_inD hu) ⟨x, ys, by rw [hK]; exact dx, by rw [hK]; exact .lst (hK ▸ hq) dy, c.1, c.2, q⟩, fun Q q => wO_of (op_notInD hu) ⟨x, ys, by rw [hK]; exact dx, by rw [hK]; exact .lst (hK ▸ hq) dy, c.1, c.2, q⟩⟩
      · refine ⟨fun Q q pins s1 v u I rv ru => ?_, fun Q q pins s1 v u I rv ru => ?_⟩
        · obtain ⟨as, r1⟩ := Dp.reads I x vx v (hK ▸ dx) rv
          obtain ⟨bs, r2⟩ := Dp.reads I (.tuple ys) (.ref p) u (.tup hq (hK ▸ dy)) ru
          exact SeqAt.in_tuple_reads r2 r1 cl (SeqAt.canLay_of_shaped c.1) rm ⟨.bl _, H, I, rfl, q⟩
        · obtain ⟨as, r1⟩ := Dp.reads I x vx v (hK ▸ dx) rv
          obtain ⟨bs, r2⟩ := Dp.reads I (.tuple ys) (.ref p) u (.tup hq (hK ▸ dy)) ru
          exact SeqAt.notIn_tuple_reads r2 r1 cl (SeqAt.canLay_of_shaped c.1) rm ⟨.bl _, H, I, rfl, q⟩
    · cases e

theorem inS_some {x y : Str} {b : Bool} (e : inS x y = some b) : ∃ c, x = ⟨#[c]⟩ ∧ b = decide (c ∈ y.cps.toList) := by
  unfold inS at e
  split at e
  · rename_i c hc
    refine ⟨c, ?_, (Option.some.inj e).symm⟩
    obtain ⟨⟨l⟩⟩ := x
    have : l = [c] := hc
    rw [this]
  · cases e
/-- a comparison -/
theorem cmp_ok {op : CmpOp} {x y : PyData} {vx vy : V} (hK : X.K = pg.K) (hu : X.A.units + 65 < cLine) (s : Sim pg.K g h H) (rx : PkD pg.K g H x vx) (ry : PkD pg.K g H y vy) {b : Bool} (e : cmpD op x y = some b) {Q : VK} (q : Q (.bl b) H) :
    wO X (compareOp op) σ vx vy H Q := by
  unfold cmpD at e
  split at e
  · exact (eq_ok hK (by omega) s rx ry e).1 Q q
  · obtain ⟨c, e1, rfl⟩ := Option.map_eq_some_iff.mp e
    exact (eq_ok hK (by omega) s rx ry e1).2 Q q
  · rename_i i j; cases rx.int; cases ry.int; cases e; exact wO_of op_lt ⟨i, j, rfl, rfl, q⟩
  · rename_i i j; cases rx.int; cases ry.int; cases e; exact wO_of op_le ⟨i, j, rfl, rfl, q⟩
  · rename_i i j; cases rx.int; cases ry.int; cases e; exact wO_of op_gt ⟨i, j, rfl, rfl, q⟩
  · rename_i i j; cases rx.int; cases ry.int; cases e; exact wO_of op_ge ⟨i, j, rfl, rfl, q⟩
  · cases ry.none
    cases e
    refine wO_of op_isN ⟨rfl, ?_⟩
    have : decide (vx = .non) = isN x := by
      cases x with
      | none => cases rx.none; rfl
      | bool _ => cases rx.bool; rfl
      | int _ => cases rx.int; rfl
      | str _ => cases rx.str; rfl
      | list _ => obtain ⟨_, _, rfl, _⟩ := PkD.list s rx; rfl
      | tuple _ => obtain ⟨_, _, rfl, _⟩ := PkD.tuple s rx; rfl
      | dict _ =>
        rcases rx with rx | ⟨_, _, _, e, _⟩
        · simp only [VlR, Rp] at rx
          obtain ⟨_, _, rfl, _⟩ := rx
          rfl
        · cases e
    rw [this]; exact q
  · cases ry.none
    cases e
    refine wO_of op_notN ⟨rfl, ?_⟩
    have : (!decide (vx = .non)) = !isN x := by
      cases x with
      | none => cases rx.none; rfl
      | bool _ => cases rx.bool; rfl
      | int _ => cases rx.int; rfl
      | str _ => cases rx.str; rfl
      | list _ => obtain ⟨_, _, rfl, _⟩ := PkD.list s rx; rfl
      | tuple _ => obtain ⟨_, _, rfl, _⟩ := PkD.tuple s rx; rfl
      | dict _ =>
        rcases rx with rx | ⟨_, _, _, e, _⟩
        · simp only [VlR, Rp] at rx
          obtain ⟨_, _, rfl, _⟩ := rx
          rfl
        · cases e
    rw [this]; exact q
  · rename_i a b'; cases rx.bool; cases ry.bool; cases e
    exact wO_of op_is_bl ⟨a, b', rfl, rfl, by rw [← Bool.beq_eq_decide_eq]; exact q⟩
  · rename_i a b'; cases rx.bool; cases ry.bool; cases e
    exact wO_of op_isnot_bl ⟨a, b', rfl, rfl, by rw [← Bool.beq_eq_decide_eq]; exact q⟩
  · exact (in_ok hK hu s rx ry (.inr rfl) e).1 Q q
  · exact (in_ok hK hu s rx ry (.inl rfl) e).1 Q q
  · rename_i a z; cases rx.str; cases ry.str
    obtain ⟨c, rfl, rfl⟩ := inS_some e
    exact wO_of op_in_sign ⟨c, z, rfl, rfl, q⟩
  · rename_i a z; cases rx.str; cases ry.str
    obtain ⟨b', e1, rfl⟩ := Option.map_eq_some_iff.mp e
    obtain ⟨c, rfl, rfl⟩ := inS_some e1
    exact wO_of op_notIn_sign ⟨c, z, rfl, rfl, q⟩
  · obtain ⟨c, e1, rfl⟩ := Option.map_eq_some_iff.mp e
    exact (in_ok hK hu s rx ry (.inr rfl) e1).2 Q q
  · obtain ⟨c, e1, rfl⟩ := Option.map_eq_some_iff.mp e
    exact (in_ok hK hu s rx ry (.inl rfl) e1).2 Q q
  · cases e

/-! + - * and the rest -/
theorem intsBits {i : Int} (h : okI i = true) : Builtin.Int.intBits i ≤ 6651 := by
  have := okI_log h
  unfold Builtin.Int.intBits
  split <;> omega
theorem bin_ok {op : Operator} {x y z : PyData} {vx vy : V} (hK : X.K = pg.K) (s : Sim pg.K g h H) (rx : PkD pg.K g H x vx) (ry : PkD pg.K g H y vy) (e : binD op x y = some z) {Q : VK}
    (hQ : ∀ v H' g', Sim pg.K g' h H' → Pres g H g' H' → VlRel pg.K g' H' (.d z) v → Q v H') : wO X (binaryOp op) σ vx vy H Q := by
  unfold binD at e
  split at e
  · cases rx.int; cases ry.int; cases e
    exact wO_of op_add ⟨_, _, rfl, rfl, ok_int s hQ⟩
  · cases rx.str; cases ry.str
    split at e
    · rename_i c; cases e
      exact wO_of op_add_str ⟨_, _, rfl, rfl, szL ▸ c, ok_str s hQ⟩
    · cases e
  · split at e
    · rename_i c; cases e
      obtain ⟨a, vs, rfl, hq, r⟩ := PkD.list s rx
      obtain ⟨b, ws, rfl, hq2, r2⟩ := PkD.list s ry
      exact wO_of op_cat ⟨a, b, vs, ws, rfl, rfl, hq, hq2, by rw [r.length, r2.length]; exact szL ▸ c, ok_lst s (r.append r2) hQ⟩
    · cases e
  · split at e
    · rename_i xs ys c; cases e
      obtain ⟨a, vs, rfl, hq, r⟩ := PkD.tuple s rx
      obtain ⟨b, ws, rfl, hq2, r2⟩ := PkD.tuple s ry
      refine wO_of op_catA ⟨a, b, vs, ws, rfl, rfl, hK ▸ hq, hK ▸ hq2, by rw [r.length, r2.length]; exact szL ▸ c, fun e0 => ?_, fun _ e0 => ?_, fun _ _ => ok_tup s (r.append r2) hQ⟩
      · subst e0
        have hx : xs = [] := List.length_eq_zero_iff.mp (r.length ▸ rfl)
        subst hx
        rcases ry with ry | ⟨_, _, _, e, _⟩
        · exact ok_it s ry hQ
        · cases e
      · subst e0
        have hy : ys = [] := List.length_eq_zero_iff.mp (r2.length ▸ rfl)
        subst hy
        rw [List.append_nil] at hQ
        rcases rx with rx | ⟨_, _, _, e, _⟩
        · exact ok_it s rx hQ
        · cases e
    · cases e
  · cases rx.int; cases ry.int; cases e
    exact wO_of op_sub ⟨_, _, rfl, rfl, ok_int s hQ⟩
  · cases rx.int; cases ry.int
    split at e
    · rename_i i j c; cases e
      rw [Bool.and_eq_true] at c
      have h1 := okI_log c.1
      have h2 := okI_log c.2
      exact wO_of op_mulW ⟨_, _, rfl, rfl, by unfold CMulW; omega, ok_int s hQ⟩
    · cases e
  · split at e
    · rename_i xs n c; cases e
      obtain ⟨a, vs, rfl, hq, r⟩ := PkD.list s rx
      cases ry.int
      refine wO_of op_rep ⟨a, n, vs, rfl, rfl, hq, by omega, by omega, ?_, ok_lst s (r.rep _) hQ⟩
      rw [r.length, ← szL]
      exact Nat.le_trans (Nat.mul_le_mul c.2.2 (show n.toNat ≤ 1000 by omega)) (by decide)
    · cases e
  · split at e
    · rename_i xs n c; cases e
      obtain ⟨a, vs, rfl, hq, r⟩ := PkD.tuple s rx
      cases ry.int
      refine wO_of op_repT ⟨a, n, vs, rfl, rfl, hK ▸ hq, fun e0 => ?_, c.1, c.2.1, by rw [r.length]; exact c.2.2.1, ok_tup s (r.rep _) hQ⟩
      subst e0
      have hx : xs = [] := List.length_eq_zero_iff.mp (r.length ▸ rfl)
      subst hx
      cases c.2.2.2
    · cases e
  · cases rx.int; cases ry.int
    split at e
    · rename_i i j c; cases e
      rw [Bool.and_eq_true] at c
      have h2 := okI_log c.2
      exact wO_of op_fdivW ⟨_, _, rfl, rfl, ⟨of_decide_eq_true c.1, by omega⟩, ok_int s hQ⟩
    · cases e
  · cases rx.int; cases ry.int
    split at e
    · rename_i i j c; cases e
      exact wO_of op_mod ⟨_, _, rfl, rfl, c, ok_int s hQ⟩
    · cases e
  · cases rx.int; cases ry.int
    split at e
    · rename_i i j c; cases e
      rw [Bool.and_eq_true] at c
      have c1 := of_decide_eq_true c.1
      have hb := intsBits c.2
      refine fun pins s1 v u I rv ru => ?_
      obtain ⟨t, rfl⟩ := rv
      obtain ⟨t', rfl⟩ := ru
      refine PyProof.Rows.pow_int c1.1 ?_ ⟨.int _, H, I.tok _, ⟨_, rfl⟩, ok_int s hQ⟩
      have h1 : (Builtin.Int.intBits i : Int) ≤ 6651 := by omega
      have h2 : (Builtin.Int.intBits i : Int) * j ≤ 6651 * 100 := Int.mul_le_mul h1 c1.2 c1.1 (by decide)
      omega
    · cases e
  · cases rx.int; cases ry.int; cases e
    exact wO_of op_and ⟨_, _, rfl, rfl, ok_int s hQ⟩
  · cases rx.int; cases ry.int; cases e
    exact wO_of op_or ⟨_, _, rfl, rfl, ok_int s hQ⟩
  · cases e
/-- op= : on numbers and texts as op -/
theorem aug_ok {op : Operator} {x y z : PyData} {vx vy : V} (hK : X.K = pg.K) (s : Sim pg.K g h H) (rx : PkD pg.K g H x vx) (ry : PkD pg.K g H y vy) (f : flatD x = true) (e : binD op x y = some z) (hop : op = .Add ∨ op = .Sub) {Q : VK}
    (hQ : ∀ v H' g', Sim pg.K g' h H' → Pres g H g' H' → VlRel pg.K g' H' (.d z) v → Q v H') : wO X (inplaceOp op) σ vx vy H Q := by
  unfold binD at e
  split at e
  · cases rx.int; cases ry.int; cases e
    exact wO_of iop_add ⟨_, _, rfl, rfl, ok_int s hQ⟩
  · cases rx.str; cases ry.str
    split at e
    · rename_i c; cases e
      exact wO_of iop_add_str ⟨_, _, rfl, rfl, szL ▸ c, ok_str s hQ⟩
    · cases e
  · cases f
  · cases f
  · cases rx.int; cases ry.int; cases e
    exact wO_of iop_sub ⟨_, _, rfl, rfl, ok_int s hQ⟩
  all_goals first | (rcases hop with h | h <;> cases h; done) | (cases e; done)

/-! truth -/
theorem tru_D {x : PyData} {v : V} (hK : X.K = pg.K) (s : Sim pg.K g h H) (r : PkD pg.K g H x v) {b : Bool} (e : truD x = some b) : TruV X.K v H b := by
  cases x with
  | none => cases r.none; cases e; rfl
  | bool _ => cases r.bool; cases e; rfl
  | int _ => cases r.int; cases e; rfl
  | str t =>
    cases r.str
    simp only [truD] at e
    split at e
    · rename_i c
      cases e
      refine ⟨szL ▸ c, ?_⟩
      by_cases h0 : t.length = 0
      · simp [h0]
      · have : ((t.length : Int) != 0) = true := by simp; omega
        rw [this]
        simp [h0]
    · cases e
  | list xs =>
    obtain ⟨a, vs, rfl, hq, rl⟩ := PkD.list s r
    cases e
    refine .inl ⟨vs, .of hq, ?_⟩
    have := rl.length
    cases xs <;> cases vs <;> simp at this ⊢
  | tuple xs =>
    obtain ⟨a, vs, rfl, hq, rl⟩ := PkD.tuple s r
    cases e
    refine .inr (.inl ⟨vs, hK ▸ hq, ?_⟩)
    have := rl.length
    cases xs <;> cases vs <;> simp at this ⊢
  | dict _ => cases e
theorem tru_V {x : Vl} {v : V} (hK : X.K = pg.K) (s : Sim pg.K g h H) (r : PkR pg.K g H x v) {b : Bool} (e : truV x = some b) : TruV X.K v H b := by
  cases x with
  | d x => exact tru_D hK s r e
  | ref _ => cases e
  | fn _ => cases e
  | scr _ => cases e
end
end Mi
/-! Mi: subscripts, slices, built-in calls on data. -/
namespace Mi
open PySem PySem.Spec PyProof.Rows L2
def wX (X : Cx) (σ : Sg) (x y : V) (H : Hp) (Q : VK) : Prop :=
  ∀ (value slice : Expr) (pins : List (Addr × Obj)) (s : Shared) (v u : Value), Inv X pins σ H s → RelV x v → RelV y u → subscripted slice false v u = operate [v, u] (getItem v u) → wpAny (model X.prog X.w) X.A (subscriptTail value slice v u) (EP X pins σ Q) X.xe s
theorem ixR_w {X : Cx} : IxR X (fun x y H Q => ∀ σ, wX X σ x y H Q) := fun value slice pins s σ H x y v u Q I rx ry h hs => h σ value slice pins s v u I rx ry hs
theorem wX_of {X : Cx} {σ : Sg} {x y : V} {H : Hp} {Q : VK} {r : L2.R2} (p : IxR X r) (h : r x y H Q) : wX X σ x y H Q := fun value slice pins s v u I rx ry hs => p value slice pins s σ H x y v u Q I rx ry h hs
def wSl (X : Cx) (σ : Sg) (x : V) (lo hi : Option Int) (H : Hp) (Q : VK) : Prop := ∀ (pins : List (Addr × Obj)) (s : Shared) (v vl vu : Value) (sl : Addr), Inv X pins σ H s → RelV x v → s.heap.IsSliceOf sl vl vu .none → IsPart vl lo → IsPart vu hi →
  ∃ T id, typeLookup (.type T) "__getitem__" = pure (some (.builtin id)) ∧ s.TypeIs v T ∧ wpAny (model X.prog X.w) X.A (getItem v (.ref sl)) (EP X pins σ Q) X.xe s
theorem slR_w {X : Cx} : L2.SlR X (fun x lo hi H Q => ∀ σ, wSl X σ x lo hi H Q) := fun pins s σ H x v vl vu lo hi sl Q I rx h1 h2 h3 h => h σ pins s v vl vu sl I rx h1 h2 h3
theorem wSl_of {X : Cx} {σ : Sg} {x : V} {lo hi : Option Int} {H : Hp} {Q : VK} {r : V → Option Int → Option Int → Hp → VK → Prop} (p : L2.SlR X r) (h : r x lo hi H Q) : wSl X σ x lo hi H Q := fun pins s v vl vu sl I rx h1 h2 h3 => p pins s σ H x v vl vu lo hi sl Q I rx h1 h2 h3 h

section
variable {pg : Pg} {X : Cx} {g : Gh} {H : Hp} {h : Sh} {σ : Sg}
theorem atI_get {α : Type} {xs : List α} {i : Int} {x : α} (e : atI xs i = some x) : ∃ j, ixN xs.length i = some j ∧ xs[j]? = some x := by
  unfold atI at e
  cases q : ixN xs.length i with
  | none => rw [q] at e; cases e
  | some j => rw [q] at e; exact ⟨j, rfl, e⟩
theorem RpL.atI {K : PySem.W.Frag} {Z : Hp} {ds : List PyData} {vs : List V} {i : Int} {x : PyData} (r : RpL K Z ds vs) (e : L2.atI ds i = some x) : ∃ v, L2.atI vs i = some v ∧ Rp K Z x v := by
  obtain ⟨j, e1, e2⟩ := atI_get e
  obtain ⟨v, e3, r3⟩ := r.get e2
  refine ⟨v, ?_, r3⟩
  unfold L2.atI
  rw [r.length, e1]
  exact e3
theorem ix_ok {x y : Vl} {z : PyData} {vx vy : V} (hK : X.K = pg.K) (s : Sim pg.K g h H) (rx : PkR pg.K g H x vx) (ry : PkR pg.K g H y vy) (e : ixV h x y = some z) {Q : VK}
    (hQ : ∀ v H' g', Sim pg.K g' h H' → Pres g H g' H' → VlRel pg.K g' H' (.d z) v → Q v H') : wX X σ vx vy H Q := by
  unfold ixV at e
  split at e
  · rename_i x i
    cases (show vy = .int i from PkD.int ry)
    unfold ixD at e
    split at e
    · obtain ⟨a, vs, rfl, hq, r⟩ := PkD.tuple s rx
      obtain ⟨v, e1, r1⟩ := r.atI e
      exact wX_of ix_tup ⟨a, vs, i, v, rfl, rfl, hK ▸ hq, e1, ok_it s r1 hQ⟩
    · obtain ⟨a, vs, rfl, hq, r⟩ := PkD.list s rx
      obtain ⟨v, e1, r1⟩ := r.atI e
      exact wX_of ix_list ⟨a, vs, i, v, rfl, rfl, .of hq, e1, ok_it s r1 hQ⟩
    · rename_i t
      cases (show vx = .str t from PkD.str rx)
      split at e
      · rename_i c
        obtain ⟨k, e1, rfl⟩ := Option.map_eq_some_iff.mp e
        exact wX_of ix_str ⟨t, i, k, rfl, rfl, szL ▸ c, e1, ok_str s hQ⟩
      · cases e
    · cases e
  · rename_i n i
    cases (show vy = .int i from PkD.int ry)
    rcases rx with ⟨a, ea, rfl⟩ | ⟨_, _, _, e0, _⟩
    · split at e
      · rename_i xs hn
        obtain ⟨b, eb, vs, hb, r⟩ := s.obj n _ hn
        rw [ea] at eb; cases eb
        obtain ⟨v, e1, r1⟩ := r.atI e
        exact wX_of ix_list ⟨a, vs, i, v, rfl, rfl, .of hb, e1, ok_it s r1 hQ⟩
      · cases e
    · cases e0
  · rename_i xs i
    cases (show vy = .int i from PkD.int ry)
    rcases rx with ⟨a, rfl, hb⟩ | ⟨_, _, _, e0, _⟩
    · obtain ⟨k, e1, rfl⟩ := Option.map_eq_some_iff.mp e
      refine wX_of ix_list ⟨a, xs.map V.int, i, .int k, rfl, rfl, hK ▸ sqL_mono s.sub hb, ?_, ok_int s hQ⟩
      obtain ⟨j, q1, q2⟩ := atI_get e1
      unfold atI
      rw [List.length_map, q1]
      show (xs.map V.int)[j]? = _
      rw [List.getElem?_map, q2]
      rfl
    · cases e0
  · cases e
theorem slice_ok {x z : PyData} {vx : V} {lo hi : Option Int} (hK : X.K = pg.K) (s : Sim pg.K g h H) (rx : PkD pg.K g H x vx) (e : sliceD x lo hi = some z) {Q : VK}
    (hQ : ∀ v H' g', Sim pg.K g' h H' → Pres g H g' H' → VlRel pg.K g' H' (.d z) v → Q v H') : wSl X σ vx lo hi H Q := by
  unfold sliceD at e
  split at e
  · rename_i xs
    cases e
    obtain ⟨a, vs, rfl, hq, r⟩ := PkD.tuple s rx
    refine wSl_of sl_tupA ⟨a, vs, rfl, hK ▸ hq, fun c => ?_, fun _ => ok_tup s (r.cut lo hi) hQ⟩
    have ec : cut xs lo hi = xs := by
      unfold cut
      rw [← r.length, c.1, c.2, r.length, List.drop_zero, Nat.sub_zero, List.take_length]
    rw [ec] at hQ
    rcases rx with rx | ⟨_, _, _, e, _⟩
    · exact ok_it s rx hQ
    · cases e
  · rename_i xs
    cases e
    obtain ⟨a, vs, rfl, hq, r⟩ := PkD.list s rx
    exact wSl_of sl_list ⟨a, vs, rfl, .of hq, ok_lst s (r.cut lo hi) hQ⟩
  · rename_i t
    cases rx.str
    split at e
    · rename_i c
      cases e
      exact wSl_of sl_str ⟨t, rfl, szL ▸ c, ok_str s hQ⟩
    · cases e
  · cases e

/-! ### repr -/
mutual
/-- data as it lies; no dict is the table of the modules -/
inductive RdS (hp : Heap) : Value → PyData → Prop
  | none : RdS hp .none .none
  | bool (b : Bool) : RdS hp (.bool b) (.bool b)
  | int (i : Int) (t : Tok) : RdS hp (.int i t) (.int i)
  | str (x : Str) (t : Tok) : RdS hp (.str x t) (.str x)
  | list {a : Addr} {o : Obj} {vs : Array Value} {n : Nat} {xs : List PyData} : hp.get? a = some o → o.cls = .type "list" → o.data = .seq vs n → RdSL hp vs.toList xs → RdS hp (.ref a) (.list xs)
  | tuple {a : Addr} {o : Obj} {vs : Array Value} {n : Nat} {xs : List PyData} : hp.get? a = some o → o.cls = .type "tuple" → o.data = .seq vs n → RdSL hp vs.toList xs → RdS hp (.ref a) (.tuple xs)
  | dict {a : Addr} {o : Obj} {es : Array DictEntry} {n : Nat} {kvs : List (PyData × PyData)} : (a == sysModules) = false → hp.get? a = some o → o.cls = .type "dict" → o.data = .dict es n →
      RdSL hp (es.toList.map (·.key)) (kvs.map (·.1)) → RdSL hp (es.toList.map (·.val)) (kvs.map (·.2)) → RdS hp (.ref a) (.dict kvs)
inductive RdSL (hp : Heap) : List Value → List PyData → Prop
  | nil : RdSL hp [] []
  | cons {v : Value} {vs : List Value} {d : PyData} {ds : List PyData} : RdS hp v d → RdSL hp vs ds → RdSL hp (v :: vs) (d :: ds)
end
mutual
theorem RdS.reads {hp : Heap} : ∀ {v : Value} {d : PyData}, RdS hp v d → ∃ as, Reads hp v d as
  | _, _, .none => ⟨_, .none⟩
  | _, _, .bool b => ⟨_, .bool b⟩
  | _, _, .int i t => ⟨_, .int i t⟩
  | _, _, .str x t => ⟨_, .str x t⟩
  | _, _, .list e1 e2 e3 e4 => let ⟨_, q⟩ := RdSL.reads e4; ⟨_, .list e1 e2 e3 q⟩
  | _, _, .tuple e1 e2 e3 e4 => let ⟨_, q⟩ := RdSL.reads e4; ⟨_, .tuple e1 e2 e3 q⟩
  | _, _, .dict _ e1 e2 e3 e4 e5 => let ⟨_, q⟩ := RdSL.reads e4; let ⟨_, q2⟩ := RdSL.reads e5; ⟨_, .dict e1 e2 e3 q q2⟩
theorem RdSL.reads {hp : Heap} : ∀ {vs : List Value} {ds : List PyData}, RdSL hp vs ds → ∃ as, ReadsAll hp vs ds as
  | _, _, .nil => ⟨_, .nil⟩
  | _, _, .cons r t => let ⟨_, q⟩ := RdS.reads r; let ⟨_, q2⟩ := RdSL.reads t; ⟨_, .cons q q2⟩
end
section
variable {P : Program} {w : World} {hp : Heap}
mutual
theorem RdS.shows : ∀ {v : Value} {d : PyData}, RdS hp v d → d.showable = true → d.shown.length ≤ sizeLine → ∃ bs, ReadAtMost hp d.depth bs ∧ ReprK P w bs hp d.depth v d.shown
  | _, _, .none, _, _ => ⟨[], (fun _ m => nomatch m), by rw [PyData.shown]; exact .of_is ReprIs.none _ _ _⟩
  | _, _, .bool b, _, _ => ⟨[], (fun _ m => nomatch m), by rw [PyData.shown]; exact .of_is (ReprIs.bool b) _ _ _⟩
  | _, _, .int i t, c, _ => ⟨[], (fun _ m => nomatch m), by rw [PyData.shown]; exact .of_is (ReprIs.int t (by rw [PyData.showable] at c; exact of_decide_eq_true c)) _ _ _⟩
  | _, _, .str x t, _, z => ⟨[], (fun _ m => nomatch m), by rw [PyData.shown] at z ⊢; exact .of_is (ReprIs.str x t z) _ _ _⟩
  | _, _, .list (a := a) (vs := vs) (xs := xs) e1 e2 e3 e4, c, z => by
    rw [PyData.shown] at z
    rw [PyData.showable] at c
    obtain ⟨bs, q1, q2⟩ := RdSL.shows e4 c fun t m => Nat.le_trans (listText_mem_le m) z
    obtain ⟨as, q3⟩ := RdSL.reads e4
    have rd : Reads hp (.ref a) (.list xs) _ := .list e1 e2 e3 q3
    have na : a ∉ bs := not_mem_of_deeper rd (by rw [PyData.depth]; omega) q1
    refine ⟨a :: bs, ReadAtMost.cons rd (by rw [PyData.depth]; omega) q1, ?_⟩
    rw [PyData.depth, PyData.shown]
    obtain ⟨l⟩ := vs
    cases l with
    | nil =>
      cases (show RdSL hp [] xs from e4)
      rw [PyData.shownAll, listText_nil]
      exact ReprK.listEmpty e1 e2 e3
    | cons x l => exact ReprK.list e1 e2 e3 na (by simpa using q2.length_eq) fun i y e => q2.item i y (by simpa using e)
  | _, _, .tuple (a := a) (vs := vs) (xs := xs) e1 e2 e3 e4, c, z => by
    rw [PyData.shown] at z
    rw [PyData.showable] at c
    obtain ⟨bs, q1, q2⟩ := RdSL.shows e4 c fun t m => Nat.le_trans (tupleText_mem_le m) z
    obtain ⟨as, q3⟩ := RdSL.reads e4
    have rd : Reads hp (.ref a) (.tuple xs) _ := .tuple e1 e2 e3 q3
    refine ⟨a :: bs, ReadAtMost.cons rd (by rw [PyData.depth]; omega) q1, ?_⟩
    rw [PyData.depth, PyData.shown]
    exact ReprK.tuple e1 e2 e3 (not_mem_of_deeper rd (by rw [PyData.depth]; omega) q1) q2
  | _, _, .dict (a := a) (es := es) (kvs := kvs) e0 e1 e2 e3 e4 e5, c, z => by
    rw [PyData.shown] at z
    rw [PyData.showable] at c
    obtain ⟨c1, c2⟩ := PyData.showableKv_split kvs c
    obtain ⟨b1, q1, k1⟩ := RdSL.shows e4 c1 fun t m => let ⟨_, m2, l⟩ := PyData.shownKv_key_le kvs t m; Nat.le_trans l (Nat.le_trans (dictText_mem_le m2) z)
    obtain ⟨b2, q2, k2⟩ := RdSL.shows e5 c2 fun t m => let ⟨_, m2, l⟩ := PyData.shownKv_val_le kvs t m; Nat.le_trans l (Nat.le_trans (dictText_mem_le m2) z)
    obtain ⟨as, r1⟩ := RdSL.reads e4
    obtain ⟨as2, r2⟩ := RdSL.reads e5
    have qb : ReadAtMost hp (PyData.depthKv kvs) (b1 ++ b2) := (q1.mono (PyData.depthAll_keys_le kvs)).append (q2.mono (PyData.depthAll_vals_le kvs))
    have rd : Reads hp (.ref a) (.dict kvs) _ := .dict e1 e2 e3 r1 r2
    refine ⟨a :: (b1 ++ b2), ReadAtMost.cons rd (by rw [PyData.depth]; omega) qb, ?_⟩
    rw [PyData.depth, PyData.shown, PyData.shownKv_eq]
    exact ReprK.dict e1 e2 e3 e0 (not_mem_of_deeper rd (by rw [PyData.depth]; omega) qb) (ReprEntriesK.of_two es.toList _ _
      (k1.more_le (fun b m => List.mem_append_left _ m) (PyData.depthAll_keys_le kvs)) (k2.more_le (fun b m => List.mem_append_right _ m) (PyData.depthAll_vals_le kvs)))
theorem RdSL.shows : ∀ {vs : List Value} {ds : List PyData}, RdSL hp vs ds → PyData.showableAll ds = true → (∀ t ∈ PyData.shownAll ds, t.length ≤ sizeLine) → ∃ bs, ReadAtMost hp (PyData.depthAll ds) bs ∧ ReprAllK P w bs hp (PyData.depthAll ds) vs (PyData.shownAll ds)
  | _, _, .nil, _, _ => ⟨[], (fun _ m => nomatch m), by rw [PyData.shownAll]; exact .nil⟩
  | _, _, .cons (d := d) (ds := ds) r t, c, z => by
    rw [PyData.showableAll, Bool.and_eq_true] at c
    rw [PyData.shownAll] at z
    obtain ⟨b1, q1, k1⟩ := RdS.shows r c.1 (z _ List.mem_cons_self)
    obtain ⟨b2, q2, k2⟩ := RdSL.shows t c.2 fun x m => z x (List.mem_cons_of_mem _ m)
    refine ⟨b1 ++ b2, ?_, ?_⟩
    · rw [PyData.depthAll]
      exact (q1.mono (Nat.le_max_left _ _)).append (q2.mono (Nat.le_max_right _ _))
    · rw [PyData.depthAll, PyData.shownAll]
      exact .cons ((k1.more fun b m => List.mem_append_left _ m).level_le (Nat.le_max_left _ _)) (k2.more_le (fun b m => List.mem_append_right _ m) (Nat.le_max_right _ _))
end
end
mutual
theorem Rp.rds {pins : List (Addr × Obj)} {s1 : Shared} {Z : Hp} (m : ∀ a o, Z a = some o → H a = some o) (I : Inv X pins σ H s1) : ∀ (d : PyData) (v : V) (u : Value), Rp X.K Z d v → RelV v u → RdS s1.heap u d
  | .none, _, _, r, ru => by simp only [Rp] at r; subst r; cases ru; exact .none
  | .bool b, _, _, r, ru => by simp only [Rp] at r; subst r; cases ru; exact .bool b
  | .int i, _, _, r, ru => by simp only [Rp] at r; subst r; obtain ⟨t, rfl⟩ := ru; exact .int i t
  | .str x, _, _, r, ru => by simp only [Rp] at r; subst r; obtain ⟨t, rfl⟩ := ru; exact .str x t
  | .list xs, _, _, r, ru => by
    simp only [Rp] at r
    obtain ⟨a, vs, rfl, hz, rl⟩ := r
    cases ru
    obtain ⟨its, rv, ⟨o, n, e1, e2, _, e3⟩, _⟩ := I.list (.of (m _ _ hz))
    exact .list e1 e2 e3 (RpL.rds m I xs vs its rl rv)
  | .tuple xs, _, _, r, ru => by
    simp only [Rp] at r
    obtain ⟨a, vs, rfl, hz, rl⟩ := r
    cases ru
    obtain ⟨its, rv, ⟨o, e1, e2, n, e3⟩, _⟩ := I.tuple (sqT_mono m hz)
    exact .tuple e1 e2 e3 (RpL.rds m I xs vs its rl rv)
  | .dict kvs, _, _, r, ru => by
    simp only [Rp] at r
    obtain ⟨a, l, rfl, hz, rl⟩ := r
    cases ru
    obtain ⟨_, ns, vs, kv, o, es, ep, e1, e2, e3, _, pr, _⟩ := I.hok a _ (m _ _ hz)
    obtain ⟨q1, q2⟩ := RpM.rds m I kvs l vs es.toList rl kv pr
    exact .dict ns e1 e2.1 e3 q1 q2
theorem RpL.rds {pins : List (Addr × Obj)} {s1 : Shared} {Z : Hp} (m : ∀ a o, Z a = some o → H a = some o) (I : Inv X pins σ H s1) : ∀ (ds : List PyData) (vs : List V) (us : List Value), RpL X.K Z ds vs → Vals vs us → RdSL s1.heap us ds
  | [], _, _, r, ru => by simp only [RpL] at r; subst r; cases ru; exact .nil
  | x :: xs, _, _, r, ru => by
    simp only [RpL] at r
    obtain ⟨v, t, rfl, r1, r2⟩ := r
    cases ru with
    | cons u1 u2 => exact .cons (Rp.rds m I x v _ r1 u1) (RpL.rds m I xs t _ r2 u2)
theorem RpM.rds {pins : List (Addr × Obj)} {s1 : Shared} {Z : Hp} (m : ∀ a o, Z a = some o → H a = some o) (I : Inv X pins σ H s1) : ∀ (kvs : List (PyData × PyData)) (l : List (Key × V)) (vs : List (Key × Value)) (es : List DictEntry), RpM X.K Z kvs l → KV l vs → Pairs (mixKind X.prog X.w) es vs →
    RdSL s1.heap (es.map (·.key)) (kvs.map (·.1)) ∧ RdSL s1.heap (es.map (·.val)) (kvs.map (·.2))
  | [], _, _, _, r, kv, pr => by
    simp only [RpM] at r
    subst r
    cases kv
    cases pr
    exact ⟨.nil, .nil⟩
  | (k, d) :: xs, _, _, _, r, kv, pr => by
    simp only [RpM] at r
    obtain ⟨q, v, t, rfl, hk, r1, r2⟩ := r
    cases kv with
    | cons k1 k2 =>
      cases pr with
      | cons p1 p2 p3 =>
        obtain ⟨g1, g2⟩ := RpM.rds m I xs t _ _ r2 k2 p3
        obtain ⟨ke, ve⟩ := k1
        refine ⟨.cons ?_ g1, .cons (Rp.rds m I d v _ r1 (by dsimp only; rw [p2]; exact ve)) g2⟩
        have p1' : keyIs _ _ = true := p1
        rw [← ke] at p1'
        cases k <;> simp [keyD] at hk
        · subst hk
          obtain ⟨tk, e⟩ := Value.isInt_shape p1'
          dsimp only; rw [e]; exact .int _ tk
        · subst hk
          obtain ⟨tk, e⟩ := Value.isStrOf_shape p1'
          dsimp only; rw [e]; exact .str _ tk
end
theorem repr_ok {x : PyData} {v : V} (hK : X.K = pg.K) (hg : X.A.guards = some []) (hu : X.A.units + 160 < cLine) (s : Sim pg.K g h H) (r : PkD pg.K g H x v) (c : showOk x = true) {Q : VK} (q : Q (.str x.shown) H) : wC X (.builtin "repr") σ [v] H Q := by
  intro pins s1 us I rv
  obtain ⟨u, rfl, ru⟩ : ∃ u, us = [u] ∧ RelV v u := by
    cases rv with
    | cons a b => cases b; exact ⟨_, rfl, a⟩
  have rd : RdS s1.heap u x := by
    rcases r with r | ⟨xs, a, vs, e, rfl, hH, _, r⟩
    · exact Rp.rds s.sub I x v u (hK ▸ r) ru
    · cases e
      cases ru
      obtain ⟨its, rv, ⟨o, n, e1, e2, _, e3⟩, _⟩ := I.list (.of hH)
      exact .list e1 e2 e3 (RpL.rds s.sub I xs vs its (hK ▸ r) rv)
  unfold showOk at c
  simp only [Bool.and_eq_true, decide_eq_true_eq] at c
  obtain ⟨⟨c1, c2⟩, c3⟩ := c
  have c2 : x.shown.length ≤ sizeLine := szL ▸ c2
  have fin : ∀ (h' : Heap) (tk : Tok) (n : Nat), (∀ b o, s1.heap.get? b = some o → h'.get? b = some o) → EP X pins σ Q (.str x.shown tk) { s1 with heap := h', toks := n } := fun h' tk n k => ⟨.str _, H, I.kept k, ⟨tk, rfl⟩, q⟩
  cases rd with
  | none => rw [PyData.shown] at fin; exact PySem.P.repr_of_none (fin _ _ _ fun _ _ e => e)
  | bool b => rw [PyData.shown] at fin; exact PySem.P.repr_of_bool (fin _ _ _ fun _ _ e => e)
  | int i t => rw [PyData.shown] at fin; rw [PyData.showable] at c1; exact PySem.P.repr_of_int (of_decide_eq_true c1) (fin _ _ _ fun _ _ e => e)
  | str y t => rw [PyData.shown] at fin c2; exact PySem.P.repr_of_str (fin _ _ _ fun _ _ e => e) c2
  | @list a o vs n xs e1 e2 e3 e4 =>
    rw [PyData.shown] at fin c2
    rw [PyData.showable] at c1
    rw [PyData.depth] at c3
    obtain ⟨bs, q1, q2⟩ := RdSL.shows (P := X.prog) (w := X.w) e4 c1 fun t m => Nat.le_trans (listText_mem_le m) c2
    obtain ⟨as, q3⟩ := RdSL.reads e4
    have na : a ∉ bs := not_mem_of_deeper (.list e1 e2 e3 q3) (by rw [PyData.depth]; omega) q1
    refine call_repr_slot (by omega) ⟨o, e1, e2⟩ F.slot_list_repr.toG ?_
    obtain ⟨l⟩ := vs
    cases l with
    | nil =>
      cases (show RdSL s1.heap [] xs from e4)
      rw [PyData.shownAll, listText_nil] at fin
      exact call_list_repr_empty ⟨o, e1, e2⟩ e1 e3 ⟨_, _, rfl, fin _ _ _ fun _ _ e => e⟩
    | cons y l => exact call_list_reprK e1 e2 e3 na (by simpa using q2.length_eq) (fun i z e => q2.item i z (by simpa using e)) hg (fun b _ => Clear.nil b) (by show X.A.units + 1 + _ < _; omega) (fun _ _ e => e) (fun h' u tk k => ⟨_, _, rfl, fin h' u tk k⟩) c2
  | @tuple a o vs n xs e1 e2 e3 e4 =>
    rw [PyData.shown] at fin c2
    rw [PyData.showable] at c1
    rw [PyData.depth] at c3
    obtain ⟨bs, q1, q2⟩ := RdSL.shows (P := X.prog) (w := X.w) e4 c1 fun t m => Nat.le_trans (tupleText_mem_le m) c2
    obtain ⟨as, q3⟩ := RdSL.reads e4
    refine call_repr_slot (by omega) ⟨o, e1, e2⟩ F.slot_tuple_repr ?_
    exact call_tuple_reprK e1 e2 e3 (not_mem_of_deeper (.tuple e1 e2 e3 q3) (by rw [PyData.depth]; omega) q1) q2 hg (fun b _ => Clear.nil b) (by show X.A.units + 1 + _ < _; omega) (fun _ _ e => e) (fun h' u tk k => ⟨_, _, rfl, fin h' u tk k⟩) c2
  | @dict a o es n kvs e0 e1 e2 e3 e4 e5 =>
    rw [PyData.shown] at fin c2
    rw [PyData.showable] at c1
    rw [PyData.depth] at c3
    obtain ⟨k1, k2⟩ := PyData.showableKv_split kvs c1
    obtain ⟨b1, q1, p1⟩ := RdSL.shows (P := X.prog) (w := X.w) e4 k1 fun t m => let ⟨_, m2, l⟩ := PyData.shownKv_key_le kvs t m; Nat.le_trans l (Nat.le_trans (dictText_mem_le m2) c2)
    obtain ⟨b2, q2, p2⟩ := RdSL.shows (P := X.prog) (w := X.w) e5 k2 fun t m => let ⟨_, m2, l⟩ := PyData.shownKv_val_le kvs t m; Nat.le_trans l (Nat.le_trans (dictText_mem_le m2) c2)
    obtain ⟨as, r1⟩ := RdSL.reads e4
    obtain ⟨as2, r2⟩ := RdSL.reads e5
    have qb : ReadAtMost s1.heap (PyData.depthKv kvs) (b1 ++ b2) := (q1.mono (PyData.depthAll_keys_le kvs)).append (q2.mono (PyData.depthAll_vals_le kvs))
    refine call_repr_slot (by omega) ⟨o, e1, e2⟩ F.slot_dict_repr ?_
    rw [PyData.shownKv_eq] at fin c2
    exact call_dict_reprK e1 e2 e3 e0 (not_mem_of_deeper (.dict e1 e2 e3 r1 r2) (by rw [PyData.depth]; omega) qb) (ReprEntriesK.of_two es.toList _ _
      (p1.more_le (fun b m => List.mem_append_left _ m) (PyData.depthAll_keys_le kvs)) (p2.more_le (fun b m => List.mem_append_right _ m) (PyData.depthAll_vals_le kvs))) hg (fun b _ => Clear.nil b) (by show X.A.units + 1 + _ < _; omega) (fun _ _ e => e) (fun h' u tk k => ⟨_, _, rfl, fin h' u tk k⟩) c2

/-- the built-in that stands behind a name -/
def biF : BI → Value
  | .len => .builtin "len"
  | .abs => .builtin "abs"
  | .min => .builtin "min"
  | .max => .builtin "max"
  | .sum => .builtin "sum"
  | .int => .type "int"
  | .str => .type "str"
  | .repr => .builtin "repr"
  | .tuple => .type "tuple"
  | .list => .type "list"
  | .all => .builtin "all"
  | .any => .builtin "any"
  | .sorted => .builtin "sorted"
def PkL (K : PySem.W.Frag) (g : Gh) (H : Hp) : List PyData → List V → Prop
  | [], vs => vs = []
  | x :: xs, vs => ∃ v r, vs = v :: r ∧ PkD K g H x v ∧ PkL K g H xs r
theorem maxL_spec : ∀ (r : List Int) (i : Int), (r.foldl (fun m x => if x > m then x else m) i) ∈ i :: r ∧ ∀ y ∈ i :: r, y ≤ r.foldl (fun m x => if x > m then x else m) i
  | [], i => ⟨by simp, fun y hy => by simp at hy; subst hy; exact Int.le_refl _⟩
  | x :: r, i => by
    rw [List.foldl_cons]
    obtain ⟨h1, h2⟩ := maxL_spec r (if x > i then x else i)
    have hle : i ≤ (if x > i then x else i) ∧ x ≤ (if x > i then x else i) := by split <;> omega
    refine ⟨?_, fun y hy => ?_⟩
    · rcases List.mem_cons.mp h1 with e | m
      · rw [e]
        split <;> simp
      · exact List.mem_cons_of_mem _ (List.mem_cons_of_mem _ m)
    · have h0 := h2 _ (List.mem_cons_self ..)
      rcases List.mem_cons.mp hy with rfl | hy
      · omega
      · rcases List.mem_cons.mp hy with rfl | hy
        · omega
        · exact h2 y (List.mem_cons_of_mem _ hy)
theorem minL_spec : ∀ (r : List Int) (i : Int), (r.foldl (fun m x => if x < m then x else m) i) ∈ i :: r ∧ ∀ y ∈ i :: r, r.foldl (fun m x => if x < m then x else m) i ≤ y
  | [], i => ⟨by simp, fun y hy => by simp at hy; subst hy; exact Int.le_refl _⟩
  | x :: r, i => by
    rw [List.foldl_cons]
    obtain ⟨h1, h2⟩ := minL_spec r (if x < i then x else i)
    have hle : (if x < i then x else i) ≤ i ∧ (if x < i then x else i) ≤ x := by split <;> omega
    refine ⟨?_, fun y hy => ?_⟩
    · rcases List.mem_cons.mp h1 with e | m
      · rw [e]
        split <;> simp
      · exact List.mem_cons_of_mem _ (List.mem_cons_of_mem _ m)
    · have h0 := h2 _ (List.mem_cons_self ..)
      rcases List.mem_cons.mp hy with rfl | hy
      · omega
      · rcases List.mem_cons.mp hy with rfl | hy
        · omega
        · exact h2 y (List.mem_cons_of_mem _ hy)
theorem bi_ok {b : BI} {xs : List PyData} {z : PyData} {vs : List V} (hK : X.K = pg.K) (hc : X.calm = true) (hg : X.A.guards = some []) (hu : X.A.units + 190 < cLine) (s : Sim pg.K g h H) (r : PkL pg.K g H xs vs) (e : biD b xs = some z) {Q : VK}
    (hQ : ∀ v H' g', Sim pg.K g' h H' → Pres g H g' H' → VlRel pg.K g' H' (.d z) v → Q v H') : wC X (biF b) σ vs H Q := by
  unfold biD at e
  split at e
  · simp only [PkL] at r; obtain ⟨_, _, rfl, r, rfl⟩ := r; cases e
    obtain ⟨a, ws, rfl, hq, rl⟩ := PkD.tuple s r
    exact wC_of call_len_seq ⟨a, ws, rfl, .inr (hK ▸ hq), by rw [rl.length]; exact ok_int s hQ⟩
  · simp only [PkL] at r; obtain ⟨_, _, rfl, r, rfl⟩ := r; cases e
    obtain ⟨a, ws, rfl, hq, rl⟩ := PkD.list s r
    exact wC_of call_len_seq ⟨a, ws, rfl, .inl (.of hq), by rw [rl.length]; exact ok_int s hQ⟩
  · simp only [PkL] at r; obtain ⟨_, _, rfl, r, rfl⟩ := r
    cases r.str
    split at e
    · rename_i c; cases e
      exact wC_of call_len_str ⟨_, rfl, szL ▸ c, ok_int s hQ⟩
    · cases e
  · simp only [PkL] at r; obtain ⟨_, _, rfl, r, rfl⟩ := r; cases e
    cases r.int
    exact wC_of call_abs ⟨_, rfl, ok_int s hQ⟩
  · simp only [PkL] at r; obtain ⟨_, _, rfl, r, _, _, rfl, r2, rfl⟩ := r; cases e
    cases r.int; cases r2.int
    exact wC_of (call_max2 hc) ⟨_, _, rfl, ok_int s hQ⟩
  · simp only [PkL] at r; obtain ⟨_, _, rfl, r, _, _, rfl, r2, rfl⟩ := r; cases e
    cases r.int; cases r2.int
    exact wC_of (call_min2 hc) ⟨_, _, rfl, ok_int s hQ⟩
  · simp only [PkL] at r; obtain ⟨_, _, rfl, r, rfl⟩ := r
    obtain ⟨a, ws, rfl, hq, rl⟩ := PkD.list s r
    obtain ⟨ns, e1, e2⟩ := Option.bind_eq_some_iff.mp e
    cases rl.ints e1
    cases ns with
    | nil => cases e2
    | cons i t =>
      cases e2
      obtain ⟨m1, m2⟩ := maxL_spec t i
      refine wC_of (cr_max hc) ⟨a, i :: t, rfl, .of hq, by simp, fun m hm hy => ?_⟩
      have : m = t.foldl (fun m x => if x > m then x else m) i := Int.le_antisymm (m2 m hm) (hy _ m1)
      rw [this]
      exact ok_int s hQ
  · simp only [PkL] at r; obtain ⟨_, _, rfl, r, rfl⟩ := r
    obtain ⟨a, ws, rfl, hq, rl⟩ := PkD.list s r
    obtain ⟨ns, e1, e2⟩ := Option.bind_eq_some_iff.mp e
    cases rl.ints e1
    cases ns with
    | nil => cases e2
    | cons i t =>
      cases e2
      obtain ⟨m1, m2⟩ := minL_spec t i
      refine wC_of (cr_min hc) ⟨a, i :: t, rfl, .of hq, by simp, fun m hm hy => ?_⟩
      have : m = t.foldl (fun m x => if x < m then x else m) i := Int.le_antisymm (hy _ m1) (m2 m hm)
      rw [this]
      exact ok_int s hQ
  · simp only [PkL] at r; obtain ⟨_, _, rfl, r, rfl⟩ := r
    obtain ⟨a, ws, rfl, hq, rl⟩ := PkD.list s r
    obtain ⟨ns, e1, rfl⟩ := Option.map_eq_some_iff.mp e
    cases rl.ints e1
    exact wC_of (cr_sum hc) ⟨a, ns, rfl, .of hq, ok_int s hQ⟩
  · simp only [PkL] at r; obtain ⟨_, _, rfl, r, rfl⟩ := r; cases e
    cases r.int
    exact wC_of call_int1 (.inl ⟨_, rfl, ok_int s hQ⟩)
  · simp only [PkL] at r; obtain ⟨_, _, rfl, r, rfl⟩ := r; cases e
    cases r.bool
    exact wC_of call_int1 (.inr ⟨_, rfl, ok_int s hQ⟩)
  · simp only [PkL] at r; obtain ⟨_, _, rfl, r, rfl⟩ := r
    cases r.int
    split at e
    · rename_i c; cases e
      exact wC_of call_str_int ⟨_, rfl, okS_log c, ok_str s hQ⟩
    · cases e
  · simp only [PkL] at r; obtain ⟨_, _, rfl, r, rfl⟩ := r; cases e
    cases r.str
    exact wC_of SkE.call_str_str ⟨_, rfl, ok_str s hQ⟩
  · rename_i d
    simp only [PkL] at r; obtain ⟨v, _, rfl, r, rfl⟩ := r
    split at e
    · rename_i c; cases e
      exact repr_ok hK hg (by omega) s r c (ok_str s hQ)
    · cases e
  · simp only [PkL] at r; obtain ⟨_, _, rfl, r, rfl⟩ := r; cases e
    obtain ⟨a, ws, rfl, hq, rl⟩ := PkD.list s r
    exact wC_of call_tuple_of ⟨a, ws, rfl, .inl ⟨.of hq, ok_tup s rl hQ⟩⟩
  · simp only [PkL] at r; obtain ⟨_, _, rfl, r, rfl⟩ := r; cases e
    obtain ⟨a, ws, rfl, hq, rl⟩ := PkD.tuple s r
    refine wC_of call_tuple_of ⟨a, ws, rfl, .inr ⟨hK ▸ hq, ?_⟩⟩
    rcases r with r | ⟨_, _, _, e, _⟩
    · exact ok_it s r hQ
    · cases e
  · simp only [PkL] at r; obtain ⟨_, _, rfl, r, rfl⟩ := r; cases e
    obtain ⟨a, ws, rfl, hq, rl⟩ := PkD.list s r
    exact wC_of call_list_of ⟨a, ws, rfl, .inl (.of hq), ok_lst s rl hQ⟩
  · simp only [PkL] at r; obtain ⟨_, _, rfl, r, rfl⟩ := r; cases e
    obtain ⟨a, ws, rfl, hq, rl⟩ := PkD.tuple s r
    exact wC_of call_list_of ⟨a, ws, rfl, .inr (hK ▸ hq), ok_lst s rl hQ⟩
  · simp only [PkL] at r; obtain ⟨_, _, rfl, r, rfl⟩ := r
    obtain ⟨a, ws, rfl, hq, rl⟩ := PkD.list s r
    obtain ⟨bs, e1, rfl⟩ := Option.map_eq_some_iff.mp e
    cases rl.bools e1
    exact wC_of (cr_all hc) ⟨a, bs, rfl, .of hq, ok_bl s hQ⟩
  · simp only [PkL] at r; obtain ⟨_, _, rfl, r, rfl⟩ := r
    obtain ⟨a, ws, rfl, hq, rl⟩ := PkD.list s r
    obtain ⟨bs, e1, rfl⟩ := Option.map_eq_some_iff.mp e
    cases rl.bools e1
    exact wC_of (cr_any hc) ⟨a, bs, rfl, .of hq, ok_bl s hQ⟩
  · cases e
/-- len of a list of the heap, of the script -/
theorem len_ok {x : Vl} {z : PyData} {v : V} (hK : X.K = pg.K) (s : Sim pg.K g h H) (r : PkR pg.K g H x v) (e : lenV h [x] = some z) {Q : VK}
    (hQ : ∀ v H' g', Sim pg.K g' h H' → Pres g H g' H' → VlRel pg.K g' H' (.d z) v → Q v H') : wC X (.builtin "len") σ [v] H Q := by
  unfold lenV at e
  split at e
  · rename_i n e0
    cases e0
    rcases r with ⟨a, ea, rfl⟩ | ⟨_, _, _, e0, _⟩
    · split at e
      · rename_i xs hn
        obtain ⟨b, eb, vs, hb, rl⟩ := s.obj n _ hn
        rw [ea] at eb; cases eb
        cases e
        exact wC_of call_len_seq ⟨a, vs, rfl, .inl (.of hb), by rw [rl.length]; exact ok_int s hQ⟩
      · cases e
    · cases e0
  · rename_i xs e0
    cases e0
    rcases r with ⟨a, rfl, hb⟩ | ⟨_, _, _, e0, _⟩
    · cases e
      exact wC_of call_len_seq ⟨a, xs.map V.int, rfl, .inl (hK ▸ sqL_mono s.sub hb), by rw [List.length_map]; exact ok_int s hQ⟩
    · cases e0
  · cases e
end
end Mi
/-! Mi: the text beside the reader's terms; expressions. -/
namespace Mi
open PySem PySem.Spec PyProof.Rows L2

/-- names of a block: by slot; its scope; the names whose cells are its own -/
structure Cd where
  N : List Str
  sc : Scope
  own : Str → Bool
/-- names of the module -/
structure Tb where
  fn : Nat → Option Str
  gl : Nat → Option Str
  cs : Nat → Option Str := fun _ => none
  sub : Nat → Nat → Bool := fun _ _ => false
  nc : Nat := 0

/-- an own class of errors that take a message -/
structure ClsK (K : PySem.W.Frag) (C : Addr) : Prop where
  kp : PySem.W.keepIn K (.ref C) = true
  ex : PySem.W.excIn K C [.type "ValueError", .type "Exception", .type "BaseException", .type "object"] "ValueError.__new__" = true
  be : PySem.W.subIn K (.ref C) (.type "BaseException") = some true
  ty : PySem.W.typeIn K (.ref C) = some (.type "type")
  xc : ExcC K C
/-- .. and how they stand to one another -/
structure ClsT (pg : Pg) (tb : Tb) : Prop where
  cs : ∀ i x, tb.cs i = some x → ∃ C, pg.cl i = some C ∧ pg.mg x = some (.ref C) ∧ ClsK pg.K C
  sb : ∀ i j C D, pg.cl i = some C → pg.cl j = some D → PySem.W.exmOne pg.K (.ref C) (.ref D) = some (tb.sub i j) ∧ PySem.W.kitOne pg.K (.ref C) (.ref D) = some (tb.sub i j)
  lt : ∀ i C, pg.cl i = some C → i < tb.nc ∧ ExcC pg.K C
/-- how a def is called: its abstract result -/
abbrev Cf := Nat → List Vl → Sh → R Vl

def VlRL (K : PySem.W.Frag) (g : Gh) : List Vl → List V → Prop
  | [], vs => vs = []
  | x :: xs, vs => ∃ v r, vs = v :: r ∧ VlR K g x v ∧ VlRL K g xs r

/-- the promise of a def -/
structure FnG (pg : Pg) (k : Nat) (f : Addr) (fd : FuncData) (ps : List Str) (F : List Vl → Sh → R Vl) : Prop where
  run : ∀ (A : Around) (outer : List Env) (s : Shared) (H : Hp) (args : Args) (us : List Value) (vs : List V) (xs : List Vl) (h : Sh) (g : Gh) (Q : VK) (E : XK), Room k A → A.guards = some [] → Env0 pg.P pg.w pg.K pg.mg pg.base A outer s H → BindsTo s fd args (ps.zip us) →
    Vals vs us → vs.length = ps.length → Sim pg.K g h H → VlRL pg.K g xs vs →
    (match F xs h with
      | .ok x h' => ∀ v H' g', Sim pg.K g' h' H' → Pres g H g' H' → VlR pg.K g' x v → Q v H'
      | .ex e h' => ∀ cls dx H' g', Sim pg.K g' h' H' → Pres g H g' H' → ErR pg e cls dx H' g' → E cls dx H'
      | .no => False) →
    codeAny (model pg.P pg.w) A (.call (.ref f) args) (CR (L2.CX pg.P pg.w) outer pg.P pg.w H s Q E) s

/-- the built-in names that the reader knows -/
def bNames : List Str := ["len", "abs", "min", "max", "sum", "int", "str", "repr", "tuple", "list", "all", "any", "sorted", "isinstance", "range", "enumerate", "zip", "bool", "dict"]

structure GX (X : Cx) (c : Cd) (pg : Pg) (tb : Tb) (G : Nat → Option PyData) (C : Cf) (n : Nat) : Prop where
  hP : X.prog = pg.P
  hw : X.w = pg.w
  hK : X.K = pg.K
  hm : X.mg = pg.mg
  hb : X.base = pg.base
  N : X.N = c.N
  nd : c.N.Nodup
  sc : X.env.scope = c.sc
  kd : c.sc.kind = .function
  fn : X.fn = c.own
  calm : X.calm = true
  po : PassesOwn (model X.prog X.w) X.A X.env X.xe
  room : Room n X.A
  gd : X.A.guards = some []
  gl : ∀ i x, tb.gl i = some x → ∀ d, G i = some d → ∃ u v, pg.mg x = some u ∧ RelV v u ∧ Rp pg.K (fun _ => none) d v
  bt : ∀ x ∈ bNames, pg.mg x = none
  ct : ClsT pg tb
  cl : ∀ i x, tb.fn i = some x → ∃ a fd ps, pg.mg x = some (.ref a) ∧ PySem.W.keepIn pg.K (.ref a) = true ∧ Binds pg.K fd ps [] ∧ FnG pg n a fd ps (C i) ∧ ∀ xs h, C i xs h ≠ .no → xs.length = ps.length

/-! ### the text beside the terms -/
def visB (sc : Scope) (x : Str) : Bool := match sc.names.lookup x with
  | some .local => true
  | some .cell => true
  | some .free => true
  | _ => false
def plainName (x : Str) : Bool := !(x == ("__debug__" : Str)) && !(x == ("__classdict__" : Str))
def nmB (c : Cd) (i : Nat) (x : Str) : Bool := decide (c.N[i]? = some x) && visB c.sc x && plainName x
def glB (c : Cd) (x : Str) : Bool := decide (c.sc.names.lookup x = some .globalImplicit) && plainName x
def cstB : PyData → Const → Bool
  | .none, .none => true
  | .bool a, .bool b => a == b
  | .int a, .int b => a == b
  | .str a, .str b => a == b
  | _, _ => false
def biN : BI → Str
  | .len => "len"
  | .abs => "abs"
  | .min => "min"
  | .max => "max"
  | .sum => "sum"
  | .int => "int"
  | .str => "str"
  | .repr => "repr"
  | .tuple => "tuple"
  | .list => "list"
  | .all => "all"
  | .any => "any"
  | .sorted => "sorted"
def tyN : Ty → Str
  | .int => "int"
  | .str => "str"
  | .bool => "bool"
  | .tuple => "tuple"
  | .list => "list"
  | .dict => "dict"
def noStar : Expr → Bool
  | .Starred .. => false
  | _ => true
def noSlice : Expr → Bool
  | .Slice .. => false
  | _ => true
def noSet : Expr → Bool
  | .Set .. => false
  | _ => true
/-- a test that is tried by its value -/
def byValue : Expr → Bool
  | .UnaryOp .Not _ _ => false
  | .BoolOp .. => false
  | .IfExp .. => false
  | .Compare .. => false
  | _ => true
def isPeek : Te → Bool
  | .peek _ => true
  | _ => false
def stB (c : Cd) (i : Nat) (x : Str) : Bool := decide (c.N[i]? = some x) && (decide (c.sc.names.lookup x = some .local) || (decide (c.sc.names.lookup x = some .cell) && c.own x))
def stBs (c : Cd) : List Nat → List Expr → Bool
  | [], [] => true
  | i :: is, .Name x _ :: es => stB c i x && stBs c is es
  | _, _ => false
def tgB (c : Cd) : Tg → Expr → Bool
  | .n i, .Name x _ => stB c i x
  | .t is, .Tuple es _ _ => stBs c is es
  | _, _ => false
/-- the own names of a comprehension -/
def tgOwn : Tg → Expr → List (Str × Nat)
  | .n i, .Name x _ => [(x, i)]
  | .t is, .Tuple es _ _ => (es.zip is).filterMap fun p => match p.1 with
    | .Name x _ => some (x, p.2)
    | _ => none
  | _, _ => []
def cdC (c : Cd) (scope : Scope) : Cd := ⟨c.N, relS scope c.sc, fun x => scope.names.lookup x == some .cell⟩
def bopB : Operator → Bool
  | .Add | .Sub | .Mult | .FloorDiv | .Mod | .Pow | .BitAnd | .BitOr => true
  | _ => false

def isTt : Tg → Bool
  | .t _ => true
  | _ => false
/-- the text of a source that is walked -/
def itB (c : Cd) (oe : List Expr → Bool) (tg : Tg) (k : Mi.It) (e : Expr) : Bool := match k, e with
  | .range1, .Call (.Name x _) [a] [] _ => decide (x = ("range" : Str)) && glB c x && oe [a]
  | .range2, .Call (.Name x _) [a, b] [] _ => decide (x = ("range" : Str)) && glB c x && oe [a, b]
  | .enum, .Call (.Name x _) [a] [] _ => decide (x = ("enumerate" : Str)) && glB c x && oe [a] && isTt tg
  | .zip, .Call (.Name x _) [a, b] [] _ => decide (x = ("zip" : Str)) && glB c x && oe [a, b] && isTt tg
  | .seq, e => oe [e] && noSet e
  | _, _ => false
mutual
def okE (c : Cd) (tb : Tb) : Te → Expr → Bool
  | .cst v, .Constant k _ _ => cstB v k
  | .var i, .Name x _ => nmB c i x
  | .peek i, .Name x _ => nmB c i x
  | .glob i, .Name x _ => glB c x && decide (tb.gl i = some x)
  | .bin op a b, .BinOp a' op' b' _ => decide (op = op') && okE c tb a a' && okE c tb b b'
  | .cmp op a b, .Compare a' [op'] [b'] _ => decide (op = op') && okE c tb a a' && okE c tb b b' && noSet b'
  | .chain o1 o2 x y z, .Compare x' [p1, p2] [y', z'] _ => decide (o1 = p1) && decide (o2 = p2) && okE c tb x x' && okE c tb y y' && okE c tb z z' && noSet z'
  | .and es, .BoolOp .And es' _ => okEs c tb false es es'
  | .or es, .BoolOp .Or es' _ => okEs c tb false es es'
  | .not e, .UnaryOp .Not e' _ => okE c tb e e'
  | .ite t a b, .IfExp t' a' b' _ => okE c tb t t' && okE c tb a a' && okE c tb b b' && !isPeek a && !isPeek b
  | .neg e, .UnaryOp .USub e' _ => okE c tb e e'
  | .tup es, .Tuple es' _ _ => okEs c tb false es es'
  | .dict0, .Dict [] [] _ => true
  | .ofL l, e => okL c tb l e
  | .newl l, e => okL c tb l e
  | .ix a i, .Subscript a' i' _ => okE c tb a a' && okE c tb i i' && noSlice i'
  | .sliceF a lo, .Subscript a' (.Slice (some lo') none none _) _ => okE c tb a a' && okE c tb lo lo'
  | .sliceT a hi, .Subscript a' (.Slice none (some hi') none _) _ => okE c tb a a' && okE c tb hi hi'
  | .sliceB a lo hi, .Subscript a' (.Slice (some lo') (some hi') none _) _ => okE c tb a a' && okE c tb lo lo' && okE c tb hi hi'
  | .rev a, .Subscript a' (.Slice none none (some (.UnaryOp .USub (.Constant (.int 1) _ _) _)) _) _ => okE c tb a a'
  | .call f es, .Call (.Name x _) es' [] _ => glB c x && decide (tb.fn f = some x) && okEs c tb false es es'
  | .bi b es, .Call (.Name x _) es' [] _ => glB c x && decide (x = biN b) && okEs c tb true es es' && !es'.isEmpty
  | .isi e ts, .Call (.Name x _) [e', .Name t _] [] _ => glB c x && decide (x = ("isinstance" : Str)) && okE c tb e e' && noStar e' && (match ts with
      | [ty] => decide (t = tyN ty) && glB c t
      | _ => false)
  | _, _ => false
def okEs (c : Cd) (tb : Tb) (pk : Bool) : List Te → List Expr → Bool
  | [], [] => true
  | e :: es, e' :: es' => okE c tb e e' && (pk || !isPeek e) && noStar e' && okEs c tb pk es es'
  | _, _ => false
def okL (c : Cd) (tb : Tb) : Tl → Expr → Bool
  | .disp es, .List es' _ => okEs c tb false es es'
  | .comp elt tg k es cs, .ListComp elt' [⟨tg', it', ifs', 0⟩] scope _ => blkC c.N c.sc scope (tgOwn tg tg') && tgB (cdC c scope) tg tg' && decide ((tgOwn tg tg').map (·.2) = tg.names) &&
      itB c (okEs c tb false es) tg k it' &&
      okCs (cdC c scope) tb cs ifs' && okE (cdC c scope) tb elt elt' && !isPeek elt
  | _, _ => false
def okCs (c : Cd) (tb : Tb) : List Te → List Expr → Bool
  | [], [] => true
  | [e], [e'] => okE c tb e e'
  | _, _ => false
end
end Mi
/-! Mi: expressions: what the reader finds is what the program gives. -/
namespace Mi
open PySem PySem.Spec PyProof.Rows L2

theorem star_cons {e : Expr} {es : List Expr} {env : Env} (h : noStar e = true) : starEach (e :: es) env = (false, eval e env) :: starEach es env := by
  cases e <;> first | rfl | cases h
def noStars : List Expr → Bool
  | [] => true
  | e :: es => noStar e && noStars es
theorem star_any {pos : Pos} {env : Env} : ∀ {es : List Expr}, noStars es = true → (backTo pos (starEach es env)).any (·.1) = false
  | [], _ => rfl
  | e :: es, h => by
    rw [noStars, Bool.and_eq_true] at h
    rw [star_cons h.1]
    show ((backTo pos ((false, eval e env) :: starEach es env)).any _) = _
    unfold backTo
    rw [List.map_cons, List.any_cons]
    exact star_any h.2
theorem plainIx_of {e : Expr} (h : noSlice e = true) : PlainIx e := by
  cases e <;> first | exact fun _ _ => rfl | cases h
theorem mark_of {op : CmpOp} {e : Expr} (h : noSet e = true) : behindInMarks op e = false := by
  cases e <;> first | rfl | cases h
theorem byVal_of {e : Expr} {env : Env} (h : byValue e = true) (whole : Sem Value) : isTrue e env whole = (do let v ← whole; standAt e.pos; holding [v] (truthy v)) := by
  cases e <;> first | rfl | (rename_i op _ _; cases op <;> first | rfl | cases h) | cases h
theorem folded_of {e : Expr} {env : Env} (h : noSet e = true) (x : Value) : foldedSetIterable e env x = pure x := by
  cases e <;> first | rfl | cases h

section
variable {pg : Pg} {tb : Tb} {G : Nat → Option PyData} {C : Cf} {n : Nat} {X : Cx} {c : Cd} {g : Gh} {H : Hp} {σ : Sg} {h : Sh} {env : En}

theorem GX.vis (gx : GX X c pg tb G C n) {x : Str} (v : visB c.sc x = true) : Vis X.env.scope x := by
  rw [gx.sc]
  unfold visB at v
  unfold Vis
  revert v
  cases e : c.sc.names.lookup x with
  | none => intro v; cases v
  | some k => cases k <;> intro v <;> first | exact .inl rfl | exact .inr (.inl rfl) | exact .inr (.inr rfl) | cases v
theorem GX.gl' (gx : GX X c pg tb G C n) {x : Str} (v : c.sc.names.lookup x = some .globalImplicit) : Gl X x := by
  show X.env.scope.names.lookup x = _
  rw [gx.sc]; exact v
theorem plain_dbg {x : Str} (v : plainName x = true) : (x == ("__debug__" : Str)) = false ∧ (x == ("__classdict__" : Str)) = false := by
  unfold plainName at v
  simpa using v
theorem glB_of {x : Str} (v : glB c x = true) : c.sc.names.lookup x = some .globalImplicit ∧ (x == ("__debug__" : Str)) = false := by
  unfold glB at v
  rw [Bool.and_eq_true] at v
  exact ⟨of_decide_eq_true v.1, (plain_dbg v.2).1⟩

def RelP (K : PySem.W.Frag) (p : Te) : Gh → Hp → Vl → V → Prop := if isPeek p then PkRel K else VlRel K
theorem RelP.pk {K : PySem.W.Frag} {p : Te} {g : Gh} {H : Hp} {x : Vl} {v : V} (r : RelP K p g H x v) : PkR K g H x v := by
  unfold RelP at r
  split at r
  · exact r
  · exact .inl r
theorem RelP.vl {K : PySem.W.Frag} {p : Te} {g : Gh} {H : Hp} {x : Vl} {v : V} (hp : isPeek p = false) (r : RelP K p g H x v) : VlR K g x v := by
  unfold RelP at r
  rw [hp] at r
  exact r
theorem SR.toP {p : Te} (hp : isPeek p = false) {r : R Vl} {w : (V → Hp → Prop) → Prop} (q : SR pg X σ g H (VlRel pg.K) r w) : SR pg X σ g H (RelP pg.K p) r w := by
  unfold RelP
  rw [hp]
  exact q

/-- a test, from the value -/
theorem test_of {e : Expr} {r : R Vl} {Rl : Gh → Hp → Vl → V → Prop} (gx : GX X c pg tb G C n) (hv : byValue e = true) (hpk : ∀ g H x v, Rl g H x v → PkR pg.K g H x v) (q : SR pg X σ g H Rl r (wE X e σ H)) :
    SR pg X σ g H (fun _ _ (a b : Bool) => a = b) (tru r) (wT X e σ H) := by
  unfold tru
  refine SR.bind (w2 := fun v H1 Q => ∃ k, TruV X.K v H1 k ∧ Q k H1) q (fun Q hq => wT_of (pt_truth pe_w (byVal_of hv)) hq) fun x h1 v H1 g1 e1 s1 p1 r1 => ?_
  cases e : truV x with
  | none => exact trivial
  | some b => exact fun Q hQ => ⟨b, tru_V gx.hK s1 (hpk _ _ _ _ r1) e, hQ b H1 g1 s1 Pres.refl rfl⟩

/-! ### the constructs -/
theorem hu_of (gx : GX X c pg tb G C n) : X.A.units + 65 < cLine := by have := gx.room.un; omega
theorem SE.bin {op : Operator} {a b : Te} {ea eb : Expr} {pos : Pos} {Ra Rb : Gh → Hp → Vl → V → Prop} (gx : GX X c pg tb G C n) (ha : ∀ g H x v, Ra g H x v → PkR pg.K g H x v) (hb : ∀ g H x v, Rb g H x v → PkR pg.K g H x v)
    (q1 : SR pg X σ g H Ra (evE C G a env h) (wE X ea σ H)) (q2 : ∀ h1 g1 H1, Sim pg.K g1 h1 H1 → Pres g H g1 H1 → SR pg X σ g1 H1 Rb (evE C G b env h1) (wE X eb σ H1)) :
    SR pg X σ g H (VlRel pg.K) (evE C G (.bin op a b) env h) (wE X (.BinOp ea op eb pos) σ H) := by
  rw [evE]
  refine SR.bind (w2 := fun x H1 Q => wE X eb σ H1 fun y H2 => ∀ σ, wO X (binaryOp op) σ x y H2 Q) q1 (fun Q hq => wE_of (pe_op opR_w pe_w pe_w) hq) fun x h1 v H1 g1 _ s1 p1 r1 => ?_
  refine SR.bind (w2 := fun y H2 Q => ∀ σ, wO X (binaryOp op) σ v y H2 Q) (q2 h1 g1 H1 s1 p1) (fun _ hq => hq) fun y h2 u H2 g2 _ s2 p2 r2 => ?_
  have rx := (ha _ _ _ _ r1).mono p2
  have ry := hb _ _ _ _ r2
  cases x with
  | d x =>
    cases y with
    | d y => exact SR.lift fun z e Q hQ σ => bin_ok gx.hK s2 rx ry e hQ
    | _ => exact trivial
  | _ => exact trivial
/-- a comparison, as a value and as a test -/
theorem SE.cmp {op : CmpOp} {a b : Te} {ea eb : Expr} {pos : Pos} {Ra Rb : Gh → Hp → Vl → V → Prop} (gx : GX X c pg tb G C n) (hs : noSet eb = true) (ha : ∀ g H x v, Ra g H x v → PkR pg.K g H x v) (hb : ∀ g H x v, Rb g H x v → PkR pg.K g H x v)
    (q1 : SR pg X σ g H Ra (evE C G a env h) (wE X ea σ H)) (q2 : ∀ h1 g1 H1, Sim pg.K g1 h1 H1 → Pres g H g1 H1 → SR pg X σ g1 H1 Rb (evE C G b env h1) (wE X eb σ H1)) :
    SR pg X σ g H (VlRel pg.K) (evE C G (.cmp op a b) env h) (wE X (.Compare ea [op] [eb] pos) σ H) ∧
    SR pg X σ g H (fun _ _ (a b : Bool) => a = b) (tru (evE C G (.cmp op a b) env h)) (wT X (.Compare ea [op] [eb] pos) σ H) := by
  rw [evE]
  constructor
  · refine SR.bind (w2 := fun x H1 Q => wE X eb σ H1 fun y H2 => ∀ σ, wO X (compareOp op) σ x y H2 Q) q1 (fun Q hq => wE_of (pe_cmpR opR_w pe_w pe_w (mark_of hs)) hq) fun x h1 v H1 g1 _ s1 p1 r1 => ?_
    refine SR.bind (w2 := fun y H2 Q => ∀ σ, wO X (compareOp op) σ v y H2 Q) (q2 h1 g1 H1 s1 p1) (fun _ hq => hq) fun y h2 u H2 g2 _ s2 p2 r2 => ?_
    have rx := (ha _ _ _ _ r1).mono p2
    have ry := hb _ _ _ _ r2
    cases x with
    | d x =>
      cases y with
      | d y =>
        refine SR.lift fun z e Q hQ σ => ?_
        obtain ⟨b, e1, rfl⟩ := Option.map_eq_some_iff.mp e
        exact cmp_ok gx.hK (hu_of gx) s2 rx ry e1 (ok_bl s2 hQ)
      | _ => exact trivial
    | _ => exact trivial
  · have : ∀ {r : R Vl} {f : Vl → Sh → R Vl}, tru (r.bind f) = r.bind fun x h => tru (f x h) := fun {r f} => by cases r <;> rfl
    rw [this]
    refine SR.bind (w2 := fun x H1 Q => wE X eb σ H1 fun y H2 => ∀ σ, wO X (compareOp op) σ x y H2 fun z H3 => ∃ k, z = .bl k ∧ Q k H3) q1 (fun Q hq => wT_of (pt_cmpR opR_w pe_w pe_w (mark_of hs)) hq) fun x h1 v H1 g1 _ s1 p1 r1 => ?_
    rw [this]
    refine SR.bind (w2 := fun y H2 Q => ∀ σ, wO X (compareOp op) σ v y H2 fun z H3 => ∃ k, z = .bl k ∧ Q k H3) (q2 h1 g1 H1 s1 p1) (fun _ hq => hq) fun y h2 u H2 g2 _ s2 p2 r2 => ?_
    have rx := (ha _ _ _ _ r1).mono p2
    have ry := hb _ _ _ _ r2
    cases x with
    | d x =>
      cases y with
      | d y =>
        dsimp only
        cases e : cmpD op x y with
        | none => exact trivial
        | some b => exact fun Q hQ σ => cmp_ok gx.hK (hu_of gx) s2 rx ry e ⟨b, rfl, hQ b H2 g2 s2 Pres.refl rfl⟩
      | _ => exact trivial
    | _ => exact trivial

theorem tru_bind {α : Type} {r : R α} {f : α → Sh → R Vl} : tru (r.bind f) = r.bind fun x h => tru (f x h) := by cases r <;> rfl
theorem lastMk {op op' : CmpOp} {a b : Expr} (hs : noSet b = true) : lastMarks [op, op'] [a, b] = false := by
  show lastMarks [op'] [b] = false
  exact mark_of hs
theorem SE.chain {o1 o2 : CmpOp} {a b d : Te} {ea eb ed : Expr} {pos : Pos} {Ra Rb Rd : Gh → Hp → Vl → V → Prop} (gx : GX X c pg tb G C n) (hs : noSet ed = true) (ha : ∀ g H x v, Ra g H x v → PkR pg.K g H x v) (hb : ∀ g H x v, Rb g H x v → PkR pg.K g H x v) (hd : ∀ g H x v, Rd g H x v → PkR pg.K g H x v)
    (q1 : SR pg X σ g H Ra (evE C G a env h) (wE X ea σ H)) (q2 : ∀ h1 g1 H1, Sim pg.K g1 h1 H1 → Pres g H g1 H1 → SR pg X σ g1 H1 Rb (evE C G b env h1) (wE X eb σ H1)) (q3 : ∀ h1 g1 H1, Sim pg.K g1 h1 H1 → Pres g H g1 H1 → SR pg X σ g1 H1 Rd (evE C G d env h1) (wE X ed σ H1)) :
    SR pg X σ g H (VlRel pg.K) (evE C G (.chain o1 o2 a b d) env h) (wE X (.Compare ea [o1, o2] [eb, ed] pos) σ H) ∧
    SR pg X σ g H (fun _ _ (a b : Bool) => a = b) (tru (evE C G (.chain o1 o2 a b d) env h)) (wT X (.Compare ea [o1, o2] [eb, ed] pos) σ H) := by
  rw [evE]
  constructor
  · refine SR.bind (w2 := fun x H1 Q => wE X eb σ H1 fun y H2 => ∀ σ', wO X (compareOp o1) σ' x y H2 fun z H3 => ∃ k, z = .bl k ∧ if k = true then wE X ed σ H3 fun w H4 => ∀ σ, wO X (compareOp o2) σ y w H4 Q else Q (.bl false) H3) q1
      (fun Q hq => wE_of (pe_chain opR_w opR_w pe_w pe_w pe_w (lastMk hs)) hq) fun x h1 v H1 g1 _ s1 p1 r1 => ?_
    refine SR.bind (w2 := fun y H2 Q => ∀ σ', wO X (compareOp o1) σ' v y H2 fun z H3 => ∃ k, z = .bl k ∧ if k = true then wE X ed σ H3 fun w H4 => ∀ σ, wO X (compareOp o2) σ y w H4 Q else Q (.bl false) H3) (q2 h1 g1 H1 s1 p1) (fun _ hq => hq) fun y h2 u H2 g2 _ s2 p2 r2 => ?_
    have rx := (ha _ _ _ _ r1).mono p2
    have ry := hb _ _ _ _ r2
    cases x with
    | d x =>
      cases y with
      | d y =>
        dsimp only
        cases e : cmpD o1 x y with
        | none => exact trivial
        | some k =>
          cases k with
          | false => exact fun Q hQ σ' => cmp_ok gx.hK (hu_of gx) s2 rx ry e ⟨false, rfl, ok_bl s2 hQ⟩
          | true =>
            have q := q3 h2 g2 H2 s2 (p1.trans p2)
            have fin : SR pg X σ g2 H2 (VlRel pg.K) ((evE C G d env h2).bind fun z h3 => match z with
                | .d z => lift ((cmpD o2 y z).map .bool) h3
                | _ => .no) (fun Q => wE X ed σ H2 fun w H4 => ∀ σ, wO X (compareOp o2) σ u w H4 Q) := by
              refine SR.bind (w2 := fun w H4 Q => ∀ σ, wO X (compareOp o2) σ u w H4 Q) q (fun _ hq => hq) fun z h3 t H3 g3 _ s3 p3 r3 => ?_
              cases z with
              | d z =>
                refine SR.lift fun z' e' Q hQ σ => ?_
                obtain ⟨b', e1, rfl⟩ := Option.map_eq_some_iff.mp e'
                exact cmp_ok gx.hK (hu_of gx) s3 (ry.mono p3) (hd _ _ _ _ r3) e1 (ok_bl s3 hQ)
              | _ => exact trivial
            exact fin.imp fun Q hq σ' => cmp_ok gx.hK (hu_of gx) s2 rx ry e ⟨true, rfl, hq⟩
      | _ => exact trivial
    | _ => exact trivial
  · rw [tru_bind]
    refine SR.bind (w2 := fun x H1 Q => wE X eb σ H1 fun y H2 => ∀ σ', wO X (compareOp o1) σ' x y H2 fun z H3 => ∃ k, z = .bl k ∧ if k = true then wE X ed σ H3 fun w H4 => ∀ σ, wO X (compareOp o2) σ y w H4 fun z H5 => ∃ k, z = .bl k ∧ Q k H5 else (∃ k, V.bl false = .bl k ∧ Q k H3)) q1
      (fun Q hq => wT_of (pt_chain opR_w opR_w pe_w pe_w pe_w (lastMk hs)) hq) fun x h1 v H1 g1 _ s1 p1 r1 => ?_
    rw [tru_bind]
    refine SR.bind (w2 := fun y H2 Q => ∀ σ', wO X (compareOp o1) σ' v y H2 fun z H3 => ∃ k, z = .bl k ∧ if k = true then wE X ed σ H3 fun w H4 => ∀ σ, wO X (compareOp o2) σ y w H4 fun z H5 => ∃ k, z = .bl k ∧ Q k H5 else (∃ k, V.bl false = .bl k ∧ Q k H3)) (q2 h1 g1 H1 s1 p1) (fun _ hq => hq) fun y h2 u H2 g2 _ s2 p2 r2 => ?_
    have rx := (ha _ _ _ _ r1).mono p2
    have ry := hb _ _ _ _ r2
    cases x with
    | d x =>
      cases y with
      | d y =>
        dsimp only
        cases e : cmpD o1 x y with
        | none => exact trivial
        | some k =>
          cases k with
          | false => exact fun Q hQ σ' => cmp_ok gx.hK (hu_of gx) s2 rx ry e ⟨false, rfl, false, rfl, hQ false H2 g2 s2 Pres.refl rfl⟩
          | true =>
            have q := q3 h2 g2 H2 s2 (p1.trans p2)
            have fin : SR pg X σ g2 H2 (fun _ _ (a b : Bool) => a = b) (tru ((evE C G d env h2).bind fun z h3 => match z with
                | .d z => lift ((cmpD o2 y z).map .bool) h3
                | _ => .no)) (fun Q => wE X ed σ H2 fun w H4 => ∀ σ, wO X (compareOp o2) σ u w H4 fun z H5 => ∃ k, z = .bl k ∧ Q k H5) := by
              rw [tru_bind]
              refine SR.bind (w2 := fun w H4 Q => ∀ σ, wO X (compareOp o2) σ u w H4 fun z H5 => ∃ k, z = .bl k ∧ Q k H5) q (fun _ hq => hq) fun z h3 t H3 g3 _ s3 p3 r3 => ?_
              cases z with
              | d z =>
                dsimp only
                cases e' : cmpD o2 y z with
                | none => exact trivial
                | some b' => exact fun Q hQ σ => cmp_ok gx.hK (hu_of gx) s3 (ry.mono p3) (hd _ _ _ _ r3) e' ⟨b', rfl, hQ b' H3 g3 s3 Pres.refl rfl⟩
              | _ => exact trivial
            exact fin.imp fun Q hq σ' => cmp_ok gx.hK (hu_of gx) s2 rx ry e ⟨true, rfl, hq⟩
      | _ => exact trivial
    | _ => exact trivial
theorem SE.not {e : Te} {ee : Expr} {pos : Pos} {Ra : Gh → Hp → Vl → V → Prop} (gx : GX X c pg tb G C n) (ha : ∀ g H x v, Ra g H x v → PkR pg.K g H x v)
    (q1 : SR pg X σ g H Ra (evE C G e env h) (wE X ee σ H)) (q2 : SR pg X σ g H (fun _ _ (a b : Bool) => a = b) (tru (evE C G e env h)) (wT X ee σ H)) :
    SR pg X σ g H (VlRel pg.K) (evE C G (.not e) env h) (wE X (.UnaryOp .Not ee pos) σ H) ∧
    SR pg X σ g H (fun _ _ (a b : Bool) => a = b) (tru (evE C G (.not e) env h)) (wT X (.UnaryOp .Not ee pos) σ H) := by
  constructor
  · rw [evE]
    refine SR.bind (w2 := fun x H1 (Q : VK) => ∃ k, TruV X.K x H1 k ∧ Q (V.bl (!k)) H1) q1 (fun Q hq => wE_of (pe_notT pe_w) hq) fun x h1 v H1 g1 _ s1 p1 r1 => ?_
    cases t : truV x with
    | none => exact trivial
    | some b => exact fun Q hQ => ⟨b, tru_V gx.hK s1 (ha _ _ _ _ r1) t, ok_bl s1 hQ⟩
  · have e1 : tru (evE C G (.not e) env h) = (tru (evE C G e env h)).bind fun b h1 => .ok (!b) h1 := by
      rw [evE, tru_bind]
      unfold tru
      cases evE C G e env h with
      | no => rfl
      | ex _ _ => rfl
      | ok x h1 =>
        show (match truV x with | some b => R.ok (Vl.d (.bool (!b))) h1 | none => .no).bind _ = _
        show _ = R.bind (match truV x with | some b => R.ok b h1 | none => .no) _
        cases truV x <;> rfl
    rw [e1]
    refine SR.bind (w2 := fun b H1 Q => Q (!b) H1) q2 (fun Q hq => wT_of (pt_not pt_w) hq) fun b h1 v H1 g1 _ s1 p1 r1 => ?_
    subst r1
    exact fun Q hQ => hQ _ H1 g1 s1 Pres.refl rfl
theorem SE.ite {t a b : Te} {et ea eb : Expr} {pos : Pos}
    (q1 : SR pg X σ g H (fun _ _ (a b : Bool) => a = b) (tru (evE C G t env h)) (wT X et σ H))
    (q2 : ∀ h1 g1 H1, Sim pg.K g1 h1 H1 → Pres g H g1 H1 → SR pg X σ g1 H1 (VlRel pg.K) (evE C G a env h1) (wE X ea σ H1) ∧ SR pg X σ g1 H1 (fun _ _ (a b : Bool) => a = b) (tru (evE C G a env h1)) (wT X ea σ H1))
    (q3 : ∀ h1 g1 H1, Sim pg.K g1 h1 H1 → Pres g H g1 H1 → SR pg X σ g1 H1 (VlRel pg.K) (evE C G b env h1) (wE X eb σ H1) ∧ SR pg X σ g1 H1 (fun _ _ (a b : Bool) => a = b) (tru (evE C G b env h1)) (wT X eb σ H1)) :
    SR pg X σ g H (VlRel pg.K) (evE C G (.ite t a b) env h) (wE X (.IfExp et ea eb pos) σ H) ∧
    SR pg X σ g H (fun _ _ (a b : Bool) => a = b) (tru (evE C G (.ite t a b) env h)) (wT X (.IfExp et ea eb pos) σ H) := by
  have e1 : evE C G (.ite t a b) env h = (tru (evE C G t env h)).bind fun k h1 => if k = true then evE C G a env h1 else evE C G b env h1 := by
    rw [evE]
    unfold tru
    cases evE C G t env h with
    | no => rfl
    | ex _ _ => rfl
    | ok x h1 =>
      show (match truV x with | some true => evE C G a env h1 | some false => evE C G b env h1 | none => .no) = R.bind (match truV x with | some b => R.ok b h1 | none => .no) _
      cases truV x with
      | none => rfl
      | some k => cases k <;> rfl
  rw [e1]
  constructor
  · refine SR.bind (w2 := fun k H1 Q => if k = true then wE X ea σ H1 Q else wE X eb σ H1 Q) q1 (fun Q hq => wE_of (pe_ifExp pt_w pe_w pe_w) hq) fun k h1 v H1 g1 _ s1 p1 r1 => ?_
    subst r1
    cases k with
    | true => exact (q2 h1 g1 H1 s1 p1).1
    | false => exact (q3 h1 g1 H1 s1 p1).1
  · rw [tru_bind]
    refine SR.bind (w2 := fun k H1 Q => if k = true then wT X ea σ H1 Q else wT X eb σ H1 Q) q1 (fun Q hq => ?_) fun k h1 v H1 g1 _ s1 p1 r1 => ?_
    · intro pins s I
      refine isTrue_IfExp (thn (hq pins s I) fun k s1 ⟨H1, I1, q⟩ => ?_)
      cases k with
      | true => exact q pins s1 I1
      | false => exact q pins s1 I1
    · subst r1
      cases k with
      | true => exact (q2 h1 g1 H1 s1 p1).2
      | false => exact (q3 h1 g1 H1 s1 p1).2
theorem SE.neg {e : Te} {ee : Expr} {pos : Pos} {Ra : Gh → Hp → Vl → V → Prop} (ha : ∀ g H x v, Ra g H x v → PkR pg.K g H x v)
    (q1 : SR pg X σ g H Ra (evE C G e env h) (wE X ee σ H)) : SR pg X σ g H (VlRel pg.K) (evE C G (.neg e) env h) (wE X (.UnaryOp .USub ee pos) σ H) := by
  rw [evE]
  refine SR.bind (w2 := fun x H1 (Q : VK) => ∃ i, x = V.int i ∧ Q (V.int (-i)) H1) q1 (fun Q hq => wE_of (pe_un un_neg pe_w) hq) fun x h1 v H1 g1 _ s1 p1 r1 => ?_
  split
  · exact fun Q hQ => ⟨_, PkD.int (ha _ _ _ _ r1), ok_int s1 hQ⟩
  · exact trivial
theorem SE.ix {a i : Te} {ea ei : Expr} {pos : Pos} {Ra Rb : Gh → Hp → Vl → V → Prop} (gx : GX X c pg tb G C n) (hs : noSlice ei = true) (ha : ∀ g H x v, Ra g H x v → PkR pg.K g H x v) (hb : ∀ g H x v, Rb g H x v → PkR pg.K g H x v)
    (q1 : SR pg X σ g H Ra (evE C G a env h) (wE X ea σ H)) (q2 : ∀ h1 g1 H1, Sim pg.K g1 h1 H1 → Pres g H g1 H1 → SR pg X σ g1 H1 Rb (evE C G i env h1) (wE X ei σ H1)) :
    SR pg X σ g H (VlRel pg.K) (evE C G (.ix a i) env h) (wE X (.Subscript ea ei pos) σ H) := by
  rw [evE]
  refine SR.bind (w2 := fun x H1 Q => wE X ei σ H1 fun y H2 => ∀ σ, wX X σ x y H2 Q) q1 (fun Q hq => wE_of (pe_ix ixR_w pe_w pe_w (plainIx_of hs)) hq) fun x h1 v H1 g1 _ s1 p1 r1 => ?_
  refine SR.bind (w2 := fun y H2 Q => ∀ σ, wX X σ v y H2 Q) (q2 h1 g1 H1 s1 p1) (fun _ hq => hq) fun y h2 u H2 g2 _ s2 p2 r2 => ?_
  exact SR.lift fun z e Q hQ σ => ix_ok gx.hK s2 ((ha _ _ _ _ r1).mono p2) (hb _ _ _ _ r2) e hQ
theorem SE.sliceF {a i : Te} {ea ei : Expr} {pos p2 : Pos} {Ra Rb : Gh → Hp → Vl → V → Prop} (gx : GX X c pg tb G C n) (ha : ∀ g H x v, Ra g H x v → PkR pg.K g H x v) (hb : ∀ g H x v, Rb g H x v → PkR pg.K g H x v)
    (q1 : SR pg X σ g H Ra (evE C G a env h) (wE X ea σ H)) (q2 : ∀ h1 g1 H1, Sim pg.K g1 h1 H1 → Pres g H g1 H1 → SR pg X σ g1 H1 Rb (evE C G i env h1) (wE X ei σ H1)) :
    SR pg X σ g H (VlRel pg.K) (evE C G (.sliceF a i) env h) (wE X (.Subscript ea (.Slice (some ei) none none p2) pos) σ H) := by
  rw [evE]
  refine SR.bind (w2 := fun x H1 Q => wE X ei σ H1 fun y H2 => ∃ i, y = .int i ∧ ∀ σ, wSl X σ x (some i) none H2 Q) q1 (fun Q hq => wE_of (pe_slice slR_w pe_w (po_some pe_w) po_none) hq) fun x h1 v H1 g1 _ s1 p1 r1 => ?_
  refine SR.bind (w2 := fun y H2 Q => ∃ i, y = .int i ∧ ∀ σ, wSl X σ v (some i) none H2 Q) (q2 h1 g1 H1 s1 p1) (fun _ hq => hq) fun y h2 u H2 g2 _ s2 p2 r2 => ?_
  have rx := (ha _ _ _ _ r1).mono p2
  split
  · exact SR.lift fun z e Q hQ => ⟨_, PkD.int (hb _ _ _ _ r2), fun σ => slice_ok gx.hK s2 rx e hQ⟩
  · exact trivial
theorem SE.sliceT {a i : Te} {ea ei : Expr} {pos p2 : Pos} {Ra Rb : Gh → Hp → Vl → V → Prop} (gx : GX X c pg tb G C n) (ha : ∀ g H x v, Ra g H x v → PkR pg.K g H x v) (hb : ∀ g H x v, Rb g H x v → PkR pg.K g H x v)
    (q1 : SR pg X σ g H Ra (evE C G a env h) (wE X ea σ H)) (q2 : ∀ h1 g1 H1, Sim pg.K g1 h1 H1 → Pres g H g1 H1 → SR pg X σ g1 H1 Rb (evE C G i env h1) (wE X ei σ H1)) :
    SR pg X σ g H (VlRel pg.K) (evE C G (.sliceT a i) env h) (wE X (.Subscript ea (.Slice none (some ei) none p2) pos) σ H) := by
  rw [evE]
  refine SR.bind (w2 := fun x H1 Q => wE X ei σ H1 fun y H2 => ∃ i, y = .int i ∧ ∀ σ, wSl X σ x none (some i) H2 Q) q1 (fun Q hq => wE_of (pe_slice slR_w pe_w po_none (po_some pe_w)) hq) fun x h1 v H1 g1 _ s1 p1 r1 => ?_
  refine SR.bind (w2 := fun y H2 Q => ∃ i, y = .int i ∧ ∀ σ, wSl X σ v none (some i) H2 Q) (q2 h1 g1 H1 s1 p1) (fun _ hq => hq) fun y h2 u H2 g2 _ s2 p2 r2 => ?_
  have rx := (ha _ _ _ _ r1).mono p2
  split
  · exact SR.lift fun z e Q hQ => ⟨_, PkD.int (hb _ _ _ _ r2), fun σ => slice_ok gx.hK s2 rx e hQ⟩
  · exact trivial
theorem SE.sliceB {a i j : Te} {ea ei ej : Expr} {pos p2 : Pos} {Ra Rb Rc : Gh → Hp → Vl → V → Prop} (gx : GX X c pg tb G C n) (ha : ∀ g H x v, Ra g H x v → PkR pg.K g H x v) (hb : ∀ g H x v, Rb g H x v → PkR pg.K g H x v) (hc : ∀ g H x v, Rc g H x v → PkR pg.K g H x v)
    (q1 : SR pg X σ g H Ra (evE C G a env h) (wE X ea σ H)) (q2 : ∀ h1 g1 H1, Sim pg.K g1 h1 H1 → Pres g H g1 H1 → SR pg X σ g1 H1 Rb (evE C G i env h1) (wE X ei σ H1)) (q3 : ∀ h1 g1 H1, Sim pg.K g1 h1 H1 → Pres g H g1 H1 → SR pg X σ g1 H1 Rc (evE C G j env h1) (wE X ej σ H1)) :
    SR pg X σ g H (VlRel pg.K) (evE C G (.sliceB a i j) env h) (wE X (.Subscript ea (.Slice (some ei) (some ej) none p2) pos) σ H) := by
  rw [evE]
  refine SR.bind (w2 := fun x H1 Q => wE X ei σ H1 fun y H2 => ∃ i, y = .int i ∧ wE X ej σ H2 fun z H3 => ∃ j, z = .int j ∧ ∀ σ, wSl X σ x (some i) (some j) H3 Q) q1 (fun Q hq => wE_of (pe_slice slR_w pe_w (po_some pe_w) (po_some pe_w)) hq) fun x h1 v H1 g1 _ s1 p1 r1 => ?_
  refine SR.bind (w2 := fun y H2 Q => ∃ i, y = .int i ∧ wE X ej σ H2 fun z H3 => ∃ j, z = .int j ∧ ∀ σ, wSl X σ v (some i) (some j) H3 Q) (q2 h1 g1 H1 s1 p1) (fun _ hq => hq) fun y h2 u H2 g2 _ s2 p2 r2 => ?_
  have q := q3 h2 g2 H2 s2 (p1.trans p2)
  split
  · rename_i k _
    refine SR.imp (w := fun Q => wE X ej σ H2 fun z H3 => ∃ j, z = .int j ∧ ∀ σ, wSl X σ v (some k) (some j) H3 Q) ?_ fun Q hq => ⟨k, PkD.int (hb _ _ _ _ r2), hq⟩
    refine SR.bind (w2 := fun z H3 Q => ∃ j, z = .int j ∧ ∀ σ, wSl X σ v (some k) (some j) H3 Q) q (fun _ hq => hq) fun z h3 t H3 g3 _ s3 p3 r3 => ?_
    have rx := ((ha _ _ _ _ r1).mono p2).mono p3
    split
    · exact SR.lift fun z e Q hQ => ⟨_, PkD.int (hc _ _ _ _ r3), fun σ => slice_ok gx.hK s3 rx e hQ⟩
    · exact trivial
  · exact trivial

/-! ### names, displays -/
theorem SE.cst {v : PyData} {k : Const} {j : Nat} {pos : Pos} (s : Sim pg.K g h H) (ok : cstB v k = true) : SR pg X σ g H (VlRel pg.K) (evE C G (.cst v) env h) (wE X (.Constant k j pos) σ H) := by
  rw [evE]
  intro Q hQ
  unfold cstB at ok
  split at ok
  · exact wE_of pe_non (hQ _ _ _ s Pres.refl (by simp only [VlRel, VlR, Rp]))
  · cases eq_of_beq ok; exact wE_of pe_bl (ok_bl s hQ)
  · cases eq_of_beq ok; exact wE_of pe_int (ok_int s hQ)
  · cases eq_of_beq ok; exact wE_of pe_str (ok_str s hQ)
  · cases ok
theorem nmB_of {i : Nat} {x : Str} (ok : nmB c i x = true) : c.N[i]? = some x ∧ visB c.sc x = true ∧ (x == ("__debug__" : Str)) = false ∧ (x == ("__classdict__" : Str)) = false := by
  unfold nmB at ok
  rw [Bool.and_eq_true, Bool.and_eq_true] at ok
  exact ⟨of_decide_eq_true ok.1.1, ok.1.2, plain_dbg ok.2⟩
theorem SE.var {i : Nat} {x : Str} {pos : Pos} (gx : GX X c pg tb G C n) (s : Sim pg.K g h H) (r : EnR pg.K g H env σ) (ok : nmB c i x = true) : SR pg X σ g H (VlRel pg.K) (evE C G (.var i) env h) (wE X (.Name x pos) σ H) := by
  rw [evE]
  obtain ⟨o1, o2, o3, o4⟩ := nmB_of ok
  split
  · rename_i y e
    obtain ⟨o, e1, v, rfl, q⟩ := r.at_ i _ e
    exact fun Q hQ => wE_of (pe_var (by rw [gx.N]; exact o1) (gx.vis o2) o3 o4) ⟨v, e1, hQ v H g s Pres.refl q⟩
  · exact trivial
theorem SE.peek {i : Nat} {x : Str} {pos : Pos} (gx : GX X c pg tb G C n) (s : Sim pg.K g h H) (r : EnR pg.K g H env σ) (ok : nmB c i x = true) : SR pg X σ g H (PkRel pg.K) (evE C G (.peek i) env h) (wE X (.Name x pos) σ H) := by
  rw [evE]
  obtain ⟨o1, o2, o3, o4⟩ := nmB_of ok
  split
  · rename_i y e
    obtain ⟨o, e1, v, rfl, q⟩ := r.at_ i _ e
    exact fun Q hQ => wE_of (pe_var (by rw [gx.N]; exact o1) (gx.vis o2) o3 o4) ⟨v, e1, hQ v H g s Pres.refl (.inl q)⟩
  · rename_i xs e
    obtain ⟨o, e1, a, vs, rfl, hH, z, ni, q⟩ := r.at_ i _ e
    exact fun Q hQ => wE_of (pe_var (by rw [gx.N]; exact o1) (gx.vis o2) o3 o4) ⟨_, e1, hQ _ H g s Pres.refl (.inr ⟨xs, a, vs, rfl, rfl, hH, ni, q⟩)⟩
  · exact trivial
theorem SE.glob {i : Nat} {x : Str} {pos : Pos} (gx : GX X c pg tb G C n) (s : Sim pg.K g h H) (ok : (glB c x && decide (tb.gl i = some x)) = true) : SR pg X σ g H (VlRel pg.K) (evE C G (.glob i) env h) (wE X (.Name x pos) σ H) := by
  rw [evE]
  rw [Bool.and_eq_true] at ok
  obtain ⟨o1, o2⟩ := glB_of ok.1
  refine SR.lift fun z e Q hQ => ?_
  obtain ⟨u, v, e1, ru, rp⟩ := gx.gl i x (of_decide_eq_true ok.2) z e
  exact wE_of (pe_glob (gx.gl' o1) (by rw [gx.hm]; exact e1) ru o2) (hQ v H g s Pres.refl (Rp.mono (fun _ _ (y : (none : Option HO) = some _) => by cases y) z v rp))

/-- a list of values, each by a relation -/
def AllR (Rl : Vl → V → Prop) : List Vl → List V → Prop
  | [], vs => vs = []
  | x :: xs, vs => ∃ v r, vs = v :: r ∧ Rl x v ∧ AllR Rl xs r
theorem AllR.imp {R1 R2 : Vl → V → Prop} (m : ∀ x v, R1 x v → R2 x v) : ∀ {xs : List Vl} {vs : List V}, AllR R1 xs vs → AllR R2 xs vs
  | [], _, r => r
  | x :: xs, _, ⟨v, t, e, r1, r2⟩ => ⟨v, t, e, m _ _ r1, AllR.imp m r2⟩
theorem AllR.vl {K : PySem.W.Frag} : ∀ {xs : List Vl} {vs : List V}, AllR (VlR K g) xs vs → VlRL K g xs vs
  | [], _, r => r
  | x :: xs, _, ⟨v, t, e, r1, r2⟩ => ⟨v, t, e, r1, AllR.vl r2⟩
theorem AllR.data {K : PySem.W.Frag} : ∀ {xs : List Vl} {vs : List V} {ds : List PyData}, AllR (VlR K g) xs vs → datL xs = some ds → RpL K g.Z ds vs
  | [], _, _, r, e => by
    simp only [datL, Option.some.injEq] at e
    subst e
    have r : _ = [] := r
    subst r
    exact RpL.nil
  | .d x :: xs, _, _, ⟨v, t, e1, r1, r2⟩, e => by
    simp only [datL, Option.map_eq_some_iff] at e
    obtain ⟨ys, e2, rfl⟩ := e
    subst e1
    exact RpL.cons r1 (AllR.data r2 e2)
  | .ref _ :: _, _, _, _, e => by cases e
  | .fn _ :: _, _, _, _, e => by cases e
  | .scr _ :: _, _, _, _, e => by cases e
theorem AllR.pk {K : PySem.W.Frag} : ∀ {xs : List Vl} {vs : List V} {ds : List PyData}, AllR (PkR K g H) xs vs → datL xs = some ds → PkL K g H ds vs
  | [], _, _, r, e => by
    simp only [datL, Option.some.injEq] at e
    subst e
    exact r
  | .d x :: xs, _, _, ⟨v, t, e1, r1, r2⟩, e => by
    simp only [datL, Option.map_eq_some_iff] at e
    obtain ⟨ys, e2, rfl⟩ := e
    exact ⟨v, t, e1, r1, AllR.pk r2 e2⟩
  | .ref _ :: _, _, _, _, e => by cases e
  | .fn _ :: _, _, _, _, e => by cases e
  | .scr _ :: _, _, _, _, e => by cases e
/-- arguments, from the left; pk: the frame's own lists may stand among them -/
def ArR (K : PySem.W.Frag) (pk : Bool) : Gh → Hp → List Vl → List V → Prop := fun g H xs vs => AllR (if pk = true then PkR K g H else VlR K g) xs vs
theorem ArR.mono {K : PySem.W.Frag} {pk : Bool} {g' : Gh} {H' : Hp} {xs : List Vl} {vs : List V} (p : Pres g H g' H') (r : ArR K pk g H xs vs) : ArR K pk g' H' xs vs := by
  cases pk with
  | true => exact AllR.imp (fun _ _ q => PkR.mono p q) r
  | false => exact AllR.imp (fun _ _ q => VlR.mono p q) r
theorem SA.nil {pk : Bool} (s : Sim pg.K g h H) : SR pg X σ g H (ArR pg.K pk) (evEs C G [] env h) (wA X [] σ H) := by
  rw [evEs]
  exact fun Q hQ => wA_of pa_nil (hQ [] H g s Pres.refl rfl)
theorem SA.cons {pk : Bool} {e : Te} {es : List Te} {ee : Expr} {ees : List Expr} (ns : noStar ee = true) (q1 : SR pg X σ g H (RelP pg.K e) (evE C G e env h) (wE X ee σ H)) (hp : (pk || !isPeek e) = true)
    (q2 : ∀ h1 g1 H1, Sim pg.K g1 h1 H1 → Pres g H g1 H1 → SR pg X σ g1 H1 (ArR pg.K pk) (evEs C G es env h1) (wA X ees σ H1)) : SR pg X σ g H (ArR pg.K pk) (evEs C G (e :: es) env h) (wA X (ee :: ees) σ H) := by
  rw [evEs]
  refine SR.bind (w2 := fun x H1 Q => wA X ees σ H1 fun xs H2 => Q (x :: xs) H2) q1 (fun Q hq => wA_of (pa_cons pe_w pa_w (star_cons ns)) hq) fun x h1 v H1 g1 _ s1 p1 r1 => ?_
  refine SR.bind (w2 := fun xs H2 Q => Q (v :: xs) H2) (q2 h1 g1 H1 s1 p1) (fun _ hq => hq) fun xs h2 vs H2 g2 _ s2 p2 r2 => ?_
  refine fun Q hQ => hQ _ H2 g2 s2 Pres.refl ⟨v, vs, rfl, ?_, r2⟩
  cases pk with
  | true => exact r1.pk.mono p2
  | false => exact (r1.vl (by simpa using hp)).mono p2
theorem SE.tup {es : List Te} {ees : List Expr} {k : Nat} {pos : Pos} (q1 : SR pg X σ g H (ArR pg.K false) (evEs C G es env h) (wA X ees σ H)) : SR pg X σ g H (VlRel pg.K) (evE C G (.tup es) env h) (wE X (.Tuple ees k pos) σ H) := by
  rw [evE]
  refine SR.bind (w2 := fun (xs : List V) H1 (Q : VK) => xs.length ≤ sizeLine ∧ ∀ p, H1 p = none → Q (V.ref p) (upd H1 p (.tup xs))) q1 (fun Q hq => wE_of (pe_tup pa_w) hq) fun xs h1 vs H1 g1 _ s1 p1 r1 => ?_
  cases e : datL xs with
  | none => exact trivial
  | some ds =>
    have rl := AllR.data r1 e
    dsimp only
    split
    · rename_i c
      exact fun Q hQ => ⟨by rw [rl.length, ← szL]; exact c, ok_tup s1 rl hQ⟩
    · exact trivial
theorem SE.dict0 {pos : Pos} (s : Sim pg.K g h H) : SR pg X σ g H (VlRel pg.K) (evE C G .dict0 env h) (wE X (.Dict [] [] pos) σ H) := by
  rw [evE]
  refine fun Q hQ => wE_of pe_dnewK fun p np => ?_
  obtain ⟨s', p'⟩ := s.frozen np (.dK [])
  refine hQ _ _ _ s' p' ?_
  simp only [VlRel, VlR, Rp]
  exact ⟨p, [], rfl, by show upd g.Z p _ p = _; rw [upd_same], by simp only [RpM]⟩

/-! ### lists made -/
/-- a list that nobody else holds -/
def OwR (K : PySem.W.Frag) : Gh → Hp → List PyData → V → Prop := fun g H xs v => ∃ a vs, v = .ref a ∧ H a = some (.lst vs) ∧ g.Z a = none ∧ a ∉ g.ι ∧ RpL K g.Z xs vs
/-- .. made behind the state g0 H0 -/
def NwR (K : PySem.W.Frag) (H0 : Hp) : Gh → Hp → List PyData → V → Prop := fun g H xs v => ∃ a vs, v = .ref a ∧ H a = some (.lst vs) ∧ g.Z a = none ∧ a ∉ g.ι ∧ RpL K g.Z xs vs ∧ H0 a = none
theorem Sim.loose (s : Sim pg.K g h H) {p : Addr} (np : H p = none) (o : HO) : Sim pg.K g h (upd H p o) ∧ Pres g H g (upd H p o) ∧ g.Z p = none ∧ p ∉ g.ι := by
  have zp : g.Z p = none := by
    cases e : g.Z p with
    | none => rfl
    | some u =>
      have := s.sub _ _ e
      rw [np] at this; cases this
  have nι : p ∉ g.ι := fun m => by
    obtain ⟨vs, e⟩ := s.tracked m
    rw [np] at e; cases e
  refine ⟨⟨fun a u e => ?_, s.nd, s.len, s.out, fun k u e => ?_⟩, ⟨fun _ _ e => e, ⟨[], (List.append_nil _).symm⟩, fun a u e n => ⟨?_, n, id⟩⟩, zp, nι⟩
  · rw [upd_ne (fun z => by rw [z, zp] at e; cases e)]
    exact s.sub _ _ e
  · obtain ⟨a, e1, r⟩ := s.obj k u e
    refine ⟨a, e1, ?_⟩
    cases u with
    | lst xs =>
      obtain ⟨vs, q, r⟩ := r
      exact ⟨vs, by rw [upd_ne (fun z => by rw [z, np] at q; cases q)]; exact q, r⟩
  · rw [upd_ne (fun z => by rw [z, np] at e; cases e)]
    exact e
/-- an own list becomes one that never changes -/
theorem Sim.freeze (s : Sim pg.K g h H) {a : Addr} {vs : List V} (e : H a = some (.lst vs)) (z : g.Z a = none) (ni : a ∉ g.ι) : Sim pg.K ⟨upd g.Z a (.lst vs), g.ι⟩ h H ∧ (∀ b o, g.Z b = some o → upd g.Z a (.lst vs) b = some o) := by
  have zm : ∀ b o, g.Z b = some o → upd g.Z a (.lst vs) b = some o := fun b o q => by
    rw [upd_ne (fun y => by rw [y, z] at q; cases q)]
    exact q
  refine ⟨⟨fun b o q => ?_, s.nd, s.len, fun b m => ?_, fun k u q => ?_⟩, zm⟩
  · have q' : upd g.Z a (.lst vs) b = some o := q
    by_cases hb : b = a
    · subst hb
      rw [upd_same] at q'
      cases q'
      exact e
    · rw [upd_ne hb] at q'
      exact s.sub _ _ q'
  · show upd g.Z a (.lst vs) b = none
    have hb : b ≠ a := fun y => ni (y ▸ m)
    rw [upd_ne hb]
    exact s.out b m
  · obtain ⟨b, e1, r⟩ := s.obj k u q
    refine ⟨b, e1, ?_⟩
    cases u with
    | lst xs =>
      obtain ⟨ws, q2, r⟩ := r
      exact ⟨ws, q2, RpL.mono zm xs ws r⟩
theorem Pres.freezeNew {g0 : Gh} {H0 : Hp} {a : Addr} {vs : List V} (p : Pres g0 H0 g H) (z : g.Z a = none) (n0 : H0 a = none) : Pres g0 H0 ⟨upd g.Z a (.lst vs), g.ι⟩ H := by
  refine ⟨fun b o q => ?_, p.i, fun b o q nb => ?_⟩
  · have q' := p.z b o q
    show upd g.Z a (.lst vs) b = some o
    rw [upd_ne (fun y => by rw [y, z] at q'; cases q')]
    exact q'
  · obtain ⟨k1, k2, k3⟩ := p.k b o q nb
    refine ⟨k1, k2, fun y => ?_⟩
    show upd g.Z a (.lst vs) b = none
    rw [upd_ne (fun w => by rw [w, n0] at q; cases q)]
    exact k3 y
theorem SE.ofL {l : Tl} {e : Expr} (q1 : SR pg X σ g H (NwR pg.K H) (evL C G l env h) (wE X e σ H)) : SR pg X σ g H (VlRel pg.K) (evE C G (.ofL l) env h) (wE X e σ H) := by
  rw [evE]
  cases q : evL C G l env h with
  | no => exact trivial
  | ex y h' =>
    rw [q] at q1
    exact q1
  | ok xs h' =>
    rw [q] at q1
    refine fun Q hQ => q1 Q fun v H' g' s' p' r' => ?_
    obtain ⟨a, vs, rfl, hH, z, ni, rl, n0⟩ := r'
    obtain ⟨s2, zm⟩ := s'.freeze hH z ni
    refine hQ _ H' ⟨upd g'.Z a (.lst vs), g'.ι⟩ s2 (p'.freezeNew z n0) ?_
    simp only [VlRel, VlR, Rp]
    exact ⟨a, vs, rfl, by show upd g'.Z a _ a = _; rw [upd_same], RpL.mono zm xs vs rl⟩
theorem SE.newl {l : Tl} {e : Expr} (q1 : SR pg X σ g H (NwR pg.K H) (evL C G l env h) (wE X e σ H)) : SR pg X σ g H (VlRel pg.K) (evE C G (.newl l) env h) (wE X e σ H) := by
  rw [evE]
  cases q : evL C G l env h with
  | no => exact trivial
  | ex y h' =>
    rw [q] at q1
    exact q1
  | ok xs h' =>
    rw [q] at q1
    refine fun Q hQ => q1 Q fun v H' g' s' p' r' => ?_
    obtain ⟨a, vs, rfl, hH, z, ni, rl, n0⟩ := r'
    have s2 : Sim pg.K ⟨g'.Z, g'.ι ++ [a]⟩ (h' ++ [.lst xs]) H' := by
      refine ⟨s'.sub, ?_, ?_, fun b m => ?_, fun k u q => ?_⟩
      · rw [List.nodup_append]
        refine ⟨s'.nd, by simp, fun b m d md => ?_⟩
        have : d = a := by simpa using md
        subst this
        exact fun y => ni (y ▸ m)
      · rw [List.length_append, List.length_append, s'.len]
        rfl
      · rcases List.mem_append.mp m with m | m
        · exact s'.out b m
        · have : b = a := by simpa using m
          subst this
          exact z
      · by_cases hk : k < h'.length
        · rw [List.getElem?_append_left hk] at q
          obtain ⟨b, e1, r⟩ := s'.obj k u q
          refine ⟨b, ?_, r⟩
          show (g'.ι ++ [a])[k]? = some b
          rw [List.getElem?_append_left (by rw [s'.len]; exact hk)]
          exact e1
        · rw [List.getElem?_append_right (Nat.le_of_not_lt hk)] at q
          have h0 : k - h'.length = 0 := by
            by_cases y : k - h'.length = 0
            · exact y
            · rw [List.getElem?_eq_none (by simp; omega)] at q
              cases q
          rw [h0] at q
          simp at q
          subst q
          refine ⟨a, ?_, vs, hH, rl⟩
          show (g'.ι ++ [a])[k]? = some a
          rw [List.getElem?_append_right (by rw [s'.len]; omega), s'.len, h0]
          rfl
    refine hQ _ H' ⟨g'.Z, g'.ι ++ [a]⟩ s2 ⟨p'.z, ?_, fun b o q nb => ?_⟩ ⟨a, ?_, rfl⟩
    · obtain ⟨t, e⟩ := p'.i
      exact ⟨t ++ [a], by rw [← List.append_assoc, ← e]⟩
    · obtain ⟨k1, k2, k3⟩ := p'.k b o q nb
      refine ⟨k1, fun m => ?_, k3⟩
      rcases List.mem_append.mp m with m | m
      · exact k2 m
      · have : b = a := by simpa using m
        subst this
        rw [n0] at q; cases q
    · show (g'.ι ++ [a])[h'.length]? = some a
      rw [List.getElem?_append_right (by rw [s'.len]; exact Nat.le_refl _), s'.len, Nat.sub_self]
      rfl
theorem SL.disp {es : List Te} {ees : List Expr} {pos : Pos} (q1 : SR pg X σ g H (ArR pg.K false) (evEs C G es env h) (wA X ees σ H)) : SR pg X σ g H (NwR pg.K H) (evL C G (.disp es) env h) (wE X (.List ees pos) σ H) := by
  rw [evL]
  cases q : evEs C G es env h with
  | no => exact trivial
  | ex y h' =>
    rw [q] at q1
    exact fun W tk hW Q => wE_of (pe_lst pa_w) (q1 W tk hW _)
  | ok xs h' =>
    rw [q] at q1
    show SR pg X σ g H (NwR pg.K H) (match datL xs with | some ds => if ds.length ≤ SZ then .ok ds h' else .no | none => .no) _
    cases e : datL xs with
    | none => exact trivial
    | some ds =>
      dsimp only
      split
      · rename_i c
        refine fun Q hQ => wE_of (pe_lst pa_w) (q1 _ fun vs H' g' s' p' r' => ?_)
        have rl := AllR.data r' e
        refine ⟨by rw [rl.length, ← szL]; exact c, fun p np => ?_⟩
        obtain ⟨s2, p2, z, ni⟩ := s'.loose np (.lst vs)
        refine hQ _ _ g' s2 (p'.trans p2) ⟨p, vs, rfl, upd_same, z, ni, rl, ?_⟩
        cases n0 : H p with
        | none => rfl
        | some u =>
          by_cases m : p ∈ g.ι
          · obtain ⟨t, et⟩ := p'.i
            exact (ni (by rw [et]; exact List.mem_append_left _ m)).elim
          · have := (p'.k p u n0 m).1
            rw [np] at this; cases this
      · exact trivial

/-! ### calls -/
def wF (X : Cx) (f : Addr) (vs : List V) (σ : Sg) (H : Hp) (Q : VK) : Prop := ∀ (pins : List (Addr × Obj)) (s : Shared) (us : List Value), Inv X pins σ H s → Vals vs us → wpAny (model X.prog X.w) X.A (call (.ref f) us) (EP X pins σ Q) X.xe s
theorem noCX {P : Program} {w : World} {outer : List Env} {s s' : Shared} {e : Value} (h : L2.CX P w outer H s (fun _ _ _ => False) e s') : False := by
  obtain ⟨_, _, _, _, _, _, _, _, _, _, _, _, z⟩ := h
  exact z
theorem call_ok {f : Addr} {fd : FuncData} {ps : List Str} {F : List Vl → Sh → R Vl} {xs : List Vl} {vs : List V} (gx : GX X c pg tb G C n) (hb : Binds pg.K fd ps []) (hF : FnG pg n f fd ps F) (hl : ∀ xs h, F xs h ≠ .no → xs.length = ps.length) (s : Sim pg.K g h H) (r : VlRL pg.K g xs vs) :
    SR pg X σ g H (VlRel pg.K) (F xs h) (wF X f vs σ H) := by
  have lenV : ∀ {xs : List Vl} {vs : List V}, VlRL pg.K g xs vs → vs.length = xs.length := by
    intro xs
    induction xs with
    | nil => intro vs r; have r : vs = [] := r; subst r; rfl
    | cons x xs ih =>
      intro vs r
      obtain ⟨v, t, rfl, _, r2⟩ := r
      rw [List.length_cons, List.length_cons, ih r2]
  have e0 : ∀ {pins : List (Addr × Obj)} {s1 : Shared}, Inv X pins σ H s1 → Env0 pg.P pg.w pg.K pg.mg pg.base X.A X.stack s1 H := fun I => by
    have q := I.env0
    rw [gx.hP, gx.hw, gx.hK, gx.hm, gx.hb] at q
    exact q
  have bnd : ∀ {pins : List (Addr × Obj)} {s1 : Shared} {us : List Value}, Inv X pins σ H s1 → us.length = ps.length → BindsTo s1 fd ⟨us, []⟩ (ps.zip us) := fun {pins s1 us} I hu => by
    have q := hb s1 us (gx.hK ▸ I.kIn) (by simpa using hu)
    simpa using q
  cases q : F xs h with
  | no => exact trivial
  | ok x h' =>
    have lx := hl xs h (by rw [q]; exact fun z => nomatch z)
    refine fun Q hQ pins s1 us I rv => ?_
    have hvl : vs.length = ps.length := (lenV r).trans lx
    refine wpAny_call ?_
    have hM : model X.prog X.w = model pg.P pg.w := by rw [gx.hP, gx.hw]
    rw [hM]
    refine codeAny_mono (hF.run X.A X.stack s1 H ⟨us, []⟩ us vs xs h g Q (fun _ _ _ => False) gx.room gx.gd (e0 I) (bnd I (by rw [← rv.length]; exact hvl)) rv hvl s r ?_) fun rr s' hq => ?_
    · rw [q]
      exact hQ
    · cases rr with
      | error e => exact (noCX hq).elim
      | ok fl =>
        cases fl with
        | ret u => exact I.after (by rw [gx.hP, gx.hw]; exact hq)
        | next => exact False.elim hq
        | brk => exact False.elim hq
        | cont => exact False.elim hq
  | ex x h' =>
    have lx := hl xs h (by rw [q]; exact fun z => nomatch z)
    refine fun W tk hW Q pins s1 us I rv => ?_
    have hvl : vs.length = ps.length := (lenV r).trans lx
    refine wpAny_call ?_
    have hM : model X.prog X.w = model pg.P pg.w := by rw [gx.hP, gx.hw]
    rw [hM]
    refine codeAny_mono (hF.run X.A X.stack s1 H ⟨us, []⟩ us vs xs h g (fun _ _ => False) (fun cls dx H' => W cls dx σ H') gx.room gx.gd (e0 I) (bnd I (by rw [← rv.length]; exact hvl)) rv hvl s r ?_) fun rr s' hq => ?_
    · rw [q]
      exact fun cls dx H' g' s' p' r' => hW cls dx H' g' s' p' r'
    · cases rr with
      | error e => exact tk e s' (XE.of_call (W := W) I (fun cls d H' (z : W cls d σ H') => z) (by rw [gx.hP, gx.hw]; exact hq))
      | ok fl =>
        cases fl with
        | ret u =>
          obtain ⟨_, _, _, _, _, _, _, z⟩ := hq
          exact z.elim
        | next => exact False.elim hq
        | brk => exact False.elim hq
        | cont => exact False.elim hq
theorem SE.call {f : Nat} {es : List Te} {ees : List Expr} {x : Str} {p pos : Pos} (gx : GX X c pg tb G C n) (hg : glB c x = true) (hf : tb.fn f = some x) (ns : noStars ees = true) (q1 : SR pg X σ g H (ArR pg.K false) (evEs C G es env h) (wA X ees σ H)) :
    SR pg X σ g H (VlRel pg.K) (evE C G (.call f es) env h) (wE X (.Call (.Name x p) ees [] pos) σ H) := by
  obtain ⟨o1, o2⟩ := glB_of hg
  obtain ⟨a, fd, ps, hm, hk, hb, hF, hl⟩ := gx.cl f x hf
  rw [evE]
  refine SR.bind (w2 := fun vs H1 Q => wF X a vs σ H1 Q) q1 (fun Q hq pins s I => ?_) fun xs h1 vs H1 g1 _ s1 p1 r1 => call_ok gx hb hF hl s1 (AllR.vl r1)
  refine wpAny_Call_Name_kw (ld_glob I (gx.gl' o1) (by rw [gx.hm]; exact hm) ?_ o2)
  cases ees with
  | nil =>
    refine PySem.W.callWith_K0 I.kIn (gx.hK ▸ hk) ?_
    have q := hq pos pins s I
    show wpAny (model X.prog X.w) X.A (spliced [] >>= fun us => PySem.call (.ref a) us) _ _ _
    exact wpAny_bind (thn q fun us s1 ⟨vs, H1, I1, rv, q3⟩ => q3 pins s1 us I1 rv)
  | cons e0 er =>
    rw [noStars, Bool.and_eq_true] at ns
    exact PySem.W.callWith_K (h₀ := X.base) I.ok.mod.kin (gx.hK ▸ hk) (thn (hq pos pins s I) fun us s1 ⟨vs, H1, I1, rv, q⟩ => ⟨I1.kIn, q pins s1 us I1 rv⟩) (star_cons ns.1) (star_any ns.2)

theorem cR_w {f : Value} : CallR X f (fun vs H Q => ∀ σ, wC X f σ vs H Q) := fun pins s σ H vs us Q I rv h => h σ pins s us I rv
theorem bt_of (gx : GX X c pg tb G C n) {b : BI} : X.mg (biN b) = none := by
  rw [gx.hm]
  exact gx.bt _ (by cases b <;> decide +kernel)
theorem SE.bi {b : BI} {es : List Te} {e0 : Expr} {er : List Expr} {x : Str} {p pos : Pos} (gx : GX X c pg tb G C n) (hg : glB c x = true) (hx : x = biN b) (ns : noStars (e0 :: er) = true) (q1 : SR pg X σ g H (ArR pg.K true) (evEs C G es env h) (wA X (e0 :: er) σ H)) :
    SR pg X σ g H (VlRel pg.K) (evE C G (.bi b es) env h) (wE X (.Call (.Name x p) (e0 :: er) [] pos) σ H) := by
  subst hx
  obtain ⟨o1, o2⟩ := glB_of hg
  rw [noStars, Bool.and_eq_true] at ns
  have go : ∀ Q : VK, wA X (e0 :: er) σ H (fun vs H1 => ∀ σ, wC X (biF b) σ vs H1 Q) → wE X (.Call (.Name (biN b) p) (e0 :: er) [] pos) σ H Q := fun Q hq => by
    have hm := bt_of gx (b := b)
    cases b
    case int => exact wE_of (pe_callTy cR_w (gx.gl' o1) hm (by decide +kernel) pa_w (by decide) o2 (star_cons ns.1) (star_any ns.2)) hq
    case str => exact wE_of (pe_callTy cR_w (gx.gl' o1) hm (by decide +kernel) pa_w (by decide) o2 (star_cons ns.1) (star_any ns.2)) hq
    case tuple => exact wE_of (pe_callTy cR_w (gx.gl' o1) hm (by decide +kernel) pa_w (by decide) o2 (star_cons ns.1) (star_any ns.2)) hq
    case list => exact wE_of (pe_callTy cR_w (gx.gl' o1) hm (by decide +kernel) pa_w (by decide) o2 (star_cons ns.1) (star_any ns.2)) hq
    all_goals exact wE_of (pe_callB cR_w (gx.gl' o1) hm (by decide +kernel) pa_w (by decide) o2 (star_cons ns.1) (star_any ns.2)) hq
  rw [evE]
  refine SR.bind (w2 := fun vs H1 Q => ∀ σ, wC X (biF b) σ vs H1 Q) q1 go fun xs h1 vs H1 g1 _ s1 p1 r1 => ?_
  have hu : X.A.units + 190 < cLine := by have := gx.room.un; omega
  cases e : datL xs with
  | some ds => exact SR.lift fun z e2 Q hQ σ => bi_ok gx.hK gx.calm gx.gd hu s1 (AllR.pk r1 e) e2 hQ
  | none =>
    dsimp only
    split
    · rename_i hb
      subst hb
      refine SR.lift fun z e2 Q hQ σ => ?_
      have hx : ∃ x, xs = [x] := by
        unfold lenV at e2
        split at e2
        · exact ⟨_, rfl⟩
        · exact ⟨_, rfl⟩
        · cases e2
      obtain ⟨y, rfl⟩ := hx
      obtain ⟨v, t, rfl, r2, r3⟩ := r1
      have r3 : t = [] := r3
      subst r3
      exact len_ok gx.hK s1 r2 e2 hQ
    · exact trivial
end
end Mi
/-! Mi: targets, what is walked, comprehensions. -/
namespace Mi
open PySem PySem.Spec PyProof.Rows L2

/-! ### targets -/
def gNs : List Nat → TGs
  | [] => gNil
  | i :: is => gCons (gName i) (gNs is)
def gOf (K : PySem.W.Frag) : Tg → TG
  | .n i => gName i
  | .t is => fun v σ H Q => gTup K is.length (gNs is) v σ H Q ∨ gUnl K is.length (gNs is) v σ H Q
  | .st _ _ => fun _ _ _ _ => False

section
variable {pg : Pg} {tb : Tb} {G : Nat → Option PyData} {C : Cf} {n : Nat} {X : Cx} {c : Cd} {g : Gh} {H : Hp} {σ : Sg} {h : Sh} {env : En}

theorem stB_of (gx : GX X c pg tb G C n) {i : Nat} {x : Str} (ok : stB c i x = true) : X.N[i]? = some x ∧ L2.Loc X.env.scope x ∧ (X.fn x = true ∨ X.env.scope.names.lookup x = some .local) := by
  unfold stB at ok
  rw [Bool.and_eq_true, Bool.or_eq_true, Bool.and_eq_true] at ok
  rw [gx.N, gx.fn]
  unfold L2.Loc
  rw [gx.sc]
  refine ⟨of_decide_eq_true ok.1, ?_, ?_⟩
  · rcases ok.2 with k | k
    · exact .inl (of_decide_eq_true k)
    · exact .inr (of_decide_eq_true k.1)
  · rcases ok.2 with k | k
    · exact .inr (of_decide_eq_true k)
    · exact .inl k.2
theorem pg_nm (gx : GX X c pg tb G C n) {i : Nat} {x : Str} {pos : Pos} (ok : stB c i x = true) : PG X (.Name x pos) (gName i) := by
  obtain ⟨o1, o2, o3⟩ := stB_of gx ok
  exact pg_name (by rw [gx.N]; exact gx.nd) o1 o2 o3
theorem stBs_len : ∀ {is : List Nat} {es : List Expr}, stBs c is es = true → es.length = is.length
  | [], [], _ => rfl
  | i :: is, e :: es, ok => by
    cases e <;> simp only [stBs, Bool.and_eq_true] at ok <;> first | (rw [List.length_cons, List.length_cons, stBs_len ok.2]) | cases ok
  | [], _ :: _, ok => by cases ok
  | _ :: _, [], ok => by cases ok
theorem pgs_nms (gx : GX X c pg tb G C n) : ∀ {is : List Nat} {es : List Expr}, stBs c is es = true → PGs X es (gNs is) ∧ (assignEach es X.env).length = es.length ∧ (assignEach es X.env).findIdx? (·.1) = none
  | [], [], _ => ⟨pgs_nil, rfl, rfl⟩
  | i :: is, e :: es, ok => by
    cases e <;> simp only [stBs, Bool.and_eq_true] at ok <;> try cases ok
    rename_i o1 o2
    obtain ⟨q1, q2, q3⟩ := pgs_nms gx o2
    refine ⟨pgs_cons (pg_nm gx o1) q1, ?_, ?_⟩
    · show (assignEach es X.env).length + 1 = _
      rw [q2]; rfl
    · show List.findIdx? _ ((false, _) :: assignEach es X.env) = none
      rw [List.findIdx?_cons, q3]
      rfl
  | [], _ :: _, ok => by cases ok
  | _ :: _, [], ok => by cases ok
theorem pg_of (gx : GX X c pg tb G C n) {tg : Tg} {e : Expr} (ok : tgB c tg e = true) : PG X e (gOf pg.K tg) := by
  cases tg with
  | n i => cases e <;> simp only [tgB] at ok <;> first | exact pg_nm gx ok | cases ok
  | t is =>
    cases e <;> simp only [tgB] at ok <;> try cases ok
    obtain ⟨q1, q2, q3⟩ := pgs_nms gx ok
    rw [← gx.hK]
    refine ⟨fun pins s σ H v u Q I r q => ?_⟩
    rcases q with q | q
    · exact (pg_tup gx.calm q1 (by rw [q2, stBs_len ok]) q3).run pins s σ H v u Q I r q
    · exact (pg_unl gx.calm q1 (by rw [q2, stBs_len ok]) q3).run pins s σ H v u Q I r q
  | st is r => cases e <;> cases ok
/-- names set to items -/
theorem bindIs_ok : ∀ {is : List Nat} {ds : List PyData} {vs : List V} {env env' : En} {σ : Sg} {Q : Sg → Hp → Prop}, bindIs is ds env = some env' → RpL pg.K g.Z ds vs → EnR pg.K g H env σ → (∀ σ', EnR pg.K g H env' σ' → (∀ ws, (∀ i ∈ is, i ∈ ws) → wipe σ' ws = wipe σ ws) → Q σ' H) → gNs is vs σ H Q
  | [], [], vs, env, env', σ, Q, e, r, en, q => by
    simp only [bindIs, Option.some.injEq] at e
    subst e
    simp only [RpL] at r
    exact ⟨r, q σ en fun _ _ => rfl⟩
  | i :: is, d :: ds, vs, env, env', σ, Q, e, r, en, q => by
    simp only [RpL] at r
    obtain ⟨v, t, rfl, r1, r2⟩ := r
    have en2 : EnR pg.K g H (env.set i (.v (.d d))) (σ.set i (some v)) := en.set (x := .d d) r1
    refine ⟨v, t, rfl, bindIs_ok (is := is) e r2 en2 fun σ' en' w => q σ' en' fun ws hw => ?_⟩
    rw [w ws fun j m => hw j (List.mem_cons_of_mem _ m)]
    exact wipe_set (hw i List.mem_cons_self)
  | [], _ :: _, _, _, _, _, _, e, _, _, _ => by simp [bindIs] at e
  | _ :: _, [], _, _, _, _, _, e, _, _, _ => by simp [bindIs] at e
where
  wipe_set {σ : Sg} {i : Nat} {o : Option V} : ∀ {ws : List Nat}, i ∈ ws → wipe (σ.set i o) ws = wipe σ ws
    | w :: ws, m => by
      unfold wipe
      by_cases hi : i ∈ ws
      · rw [wipe_set hi]
      · have e : i = w := by
          rcases List.mem_cons.mp m with e | m
          · exact e
          · exact absurd m hi
        subst e
        have : ∀ ws : List Nat, i ∉ ws → wipe (σ.set i o) ws = (wipe σ ws).set i o := by
          intro ws
          induction ws with
          | nil => intro _; rfl
          | cons x xs ih =>
            intro hx
            have h1 : i ≠ x := fun e => hx (e ▸ List.mem_cons_self)
            unfold wipe
            rw [ih fun m => hx (List.mem_cons_of_mem _ m), List.set_comm _ _ h1]
        rw [this ws hi, List.set_set]
theorem bindIs_len : ∀ {is : List Nat} {xs : List PyData} {env env' : En}, bindIs is xs env = some env' → xs.length = is.length
  | [], [], _, _, _ => rfl
  | i :: is, x :: xs, env, env', e => by rw [List.length_cons, List.length_cons, bindIs_len (is := is) e]
  | [], _ :: _, _, _, e => by simp [bindIs] at e
  | _ :: _, [], _, _, e => by simp [bindIs] at e
theorem tg_ok {tg : Tg} {x : Vl} {v : V} {env' : En} {Q : Sg → Hp → Prop} (hs : (∃ is r, tg = .st is r) → False) (e : bindTg tg x env = some env') (s : Sim pg.K g h H) (r : VlR pg.K g x v) (en : EnR pg.K g H env σ)
    (q : ∀ σ', EnR pg.K g H env' σ' → (∀ ws, (∀ i ∈ tg.names, i ∈ ws) → wipe σ' ws = wipe σ ws) → Q σ' H) : gOf pg.K tg v σ H Q := by
  unfold bindTg at e
  split at e
  · rename_i i
    cases e
    exact q _ (en.set r) fun ws hw => bindIs_ok.wipe_set (hw _ (by simp [Tg.names]))
  · rename_i is xs
    have r : Rp pg.K g.Z (.tuple xs) v := r
    simp only [Rp] at r
    obtain ⟨a, vs, rfl, hq, rl⟩ := r
    refine .inl ⟨a, vs, rfl, sqT_mono s.sub hq, ?_, bindIs_ok e rl en q⟩
    rw [rl.length]
    exact bindIs_len e
  · rename_i is xs
    have r : Rp pg.K g.Z (.list xs) v := r
    simp only [Rp] at r
    obtain ⟨a, vs, rfl, hq, rl⟩ := r
    refine .inr ⟨a, vs, rfl, .of (s.sub _ _ hq), ?_, bindIs_ok e rl en q⟩
    rw [rl.length]
    exact bindIs_len e
  · exact (hs ⟨_, _, rfl⟩).elim
  · cases e

/-! ### what is walked -/
structure Wk (K : PySem.W.Frag) (g0 : Gh) (items : List Vl) (J : L2.It) : Prop where
  go : ∀ (i : Nat) g h H, Sim K g h H → (∀ a o, g0.Z a = some o → g.Z a = some o) → i < items.length → J.go i H
  stop : ∀ g h H, Sim K g h H → (∀ a o, g0.Z a = some o → g.Z a = some o) → J.stop items.length H
  yld : ∀ (i : Nat) g h H x H', Sim K g h H → (∀ a o, g0.Z a = some o → g.Z a = some o) → i < items.length → J.yld i H x H' → ∃ g' y, items[i]? = some y ∧ Sim K g' h H' ∧ Pres g H g' H' ∧ VlR K g' y x
def wI (X : Cx) (tg iter : Expr) (σ : Sg) (H : Hp) (R : L2.It → Hp → Prop) : Prop := ∀ (pins : List (Addr × Obj)) (s : Shared), Inv X pins σ H s →
  wpAny (model X.prog X.w) X.A (eval iter X.env) (fun v s1 => wpAny (model X.prog X.w) X.A (pyIter v) (PIE X pins σ tg R) X.xe s1) X.xe s
theorem pi_w {tg iter : Expr} : PI X tg iter (wI X tg iter) := ⟨fun pins s σ H R I q => q pins s I⟩
theorem wI_of {tg iter : Expr} {t : TI} (p : PI X tg iter t) {R : L2.It → Hp → Prop} (q : t σ H R) : wI X tg iter σ H R := fun pins s I => p.run pins s σ H R I q
/-- a tuple or a list -/
def iSeq (K : PySem.W.Frag) (te : TE) : TI := fun σ H R => te σ H fun x H1 => ∃ a, x = .ref a ∧ (((∃ xs, SqL K H1 a xs) ∧ R (Itl K a) H1) ∨ ((∃ xs, SqT K H1 a xs) ∧ R (Itt K a) H1))
theorem pi_seq {tg e : Expr} {te : TE} (p : PE X e te) : PI X tg e (iSeq X.K te) := by
  refine ⟨fun pins s σ H R I q => thn (p.run pins s σ H _ I q) fun v s1 ⟨x, H1, I1, r1, a, ex, q1⟩ => ?_⟩
  subst ex
  cases r1
  rcases q1 with ⟨⟨xs, hq⟩, q⟩ | ⟨⟨xs, hq⟩, q⟩
  · obtain ⟨its, rv, pl, _⟩ := I1.list hq
    refine wpAny_pyIter_list pl.isList ⟨s1.heap.objs.size, [s1.heap.objs.size], _, _, H1, rfl, I1.kept (t' := s1.toks) fun b o e => Heap.get?_push_of_some _ e, turn_list a _, ⟨_, Heap.get?_push_size _ rfl, rfl, rfl⟩, fun b hb => ?_, q⟩
    cases List.mem_singleton.mp hb
    exact I1.fpOk (Nat.le_refl _) (I1.hok.fresh (Nat.le_refl _))
  · obtain ⟨its, rv, pl, _⟩ := I1.tuple hq
    refine wpAny_pyIter_tuple (show s1.heap.IsTuple a its.toArray from pl) ⟨s1.heap.objs.size, [s1.heap.objs.size], _, _, H1, rfl, I1.kept (t' := s1.toks) fun b o e => Heap.get?_push_of_some _ e, turn_tuple a _, ⟨_, Heap.get?_push_size _ rfl, rfl, rfl⟩, fun b hb => ?_, q⟩
    cases List.mem_singleton.mp hb
    exact I1.fpOk (Nat.le_refl _) (I1.hok.fresh (Nat.le_refl _))
theorem get_map_d {xs : List PyData} {i : Nat} (hi : i < (xs.map Vl.d).length) : ∃ x, xs[i]? = some x ∧ (xs.map Vl.d)[i]? = some (.d x) := by
  rw [List.length_map] at hi
  exact ⟨xs[i], List.getElem?_eq_getElem hi, by rw [List.getElem?_map, List.getElem?_eq_getElem hi]; rfl⟩
theorem wk_list {xs : List PyData} {a : Addr} {vs : List V} (z : g.Z a = some (.lst vs)) (r : RpL pg.K g.Z xs vs) : Wk pg.K g (xs.map Vl.d) (Itl pg.K a) where
  go := fun i g' h' H' s m hi => by
    obtain ⟨x, e1, _⟩ := get_map_d hi
    obtain ⟨v, e2, _⟩ := r.get e1
    exact ⟨vs, v, .of (s.sub _ _ (m _ _ z)), e2⟩
  stop := fun g' h' H' s m => ⟨vs, .of (s.sub _ _ (m _ _ z)), by rw [List.length_map, r.length]; exact Nat.le_refl _⟩
  yld := fun i g' h' H' x H'' s m hi y => by
    obtain ⟨e0, y⟩ := y
    subst e0
    obtain ⟨d, e1, e2⟩ := get_map_d hi
    obtain ⟨v, e3, r3⟩ := r.get e1
    have := (y vs (.of (s.sub _ _ (m _ _ z)))).symm.trans e3
    cases this
    exact ⟨g', .d d, e2, s, Pres.refl, Rp.mono m d _ r3⟩
theorem wk_tup {xs : List PyData} {a : Addr} {vs : List V} (z : SqT pg.K g.Z a vs) (r : RpL pg.K g.Z xs vs) : Wk pg.K g (xs.map Vl.d) (Itt pg.K a) where
  go := fun i g' h' H' s m hi => by
    obtain ⟨x, e1, _⟩ := get_map_d hi
    obtain ⟨v, e2, _⟩ := r.get e1
    exact ⟨vs, v, sqT_mono s.sub (sqT_mono m z), e2⟩
  stop := fun g' h' H' s m => ⟨vs, sqT_mono s.sub (sqT_mono m z), by rw [List.length_map, r.length]; exact Nat.le_refl _⟩
  yld := fun i g' h' H' x H'' s m hi y => by
    obtain ⟨e0, y⟩ := y
    subst e0
    obtain ⟨d, e1, e2⟩ := get_map_d hi
    obtain ⟨v, e3, r3⟩ := r.get e1
    have := (y vs (sqT_mono s.sub (sqT_mono m z))).symm.trans e3
    cases this
    exact ⟨g', .d d, e2, s, Pres.refl, Rp.mono m d _ r3⟩
theorem rng_get : ∀ (k : Nat) (lo : Int) (i : Nat), i < k → (rng lo k)[i]? = some (.d (.int (lo + i)))
  | 0, _, _, h => absurd h (Nat.not_lt_zero _)
  | k + 1, lo, 0, _ => by simp [rng]
  | k + 1, lo, i + 1, h => by
    show (rng (lo + 1) k)[i]? = _
    rw [rng_get k (lo + 1) i (by omega)]
    have : lo + 1 + (i : Int) = lo + ((i + 1 : Nat) : Int) := by omega
    rw [this]
theorem rng_len : ∀ (k : Nat) (lo : Int), (rng lo k).length = k
  | 0, _ => rfl
  | k + 1, lo => by
    show (rng (lo + 1) k).length + 1 = _
    rw [rng_len]
theorem wk_rng {lo : Int} {k : Nat} : Wk pg.K g (rng lo k) (Itr lo k) where
  go := fun i _ _ _ _ _ hi => by rw [rng_len] at hi; exact hi
  stop := fun _ _ _ _ _ => by rw [rng_len]; exact Nat.le_refl _
  yld := fun i g' h' H' x H'' s m hi y => by
    obtain ⟨e0, e1⟩ := y
    subst e0 e1
    rw [rng_len] at hi
    exact ⟨g', _, rng_get k lo i hi, s, Pres.refl, by simp only [VlR, Rp]⟩
theorem pairs_get : ∀ (xs : List PyData) (k i : Nat), i < xs.length → ∃ x, xs[i]? = some x ∧ (pairs k xs)[i]? = some (.d (.tuple [.int ((k + i : Nat) : Int), x]))
  | [], _, _, h => absurd h (Nat.not_lt_zero _)
  | x :: xs, k, 0, _ => ⟨x, rfl, rfl⟩
  | x :: xs, k, i + 1, h => by
    obtain ⟨y, e1, e2⟩ := pairs_get xs (k + 1) i (by simpa using h)
    refine ⟨y, by simpa using e1, ?_⟩
    show (pairs (k + 1) xs)[i]? = _
    rw [e2, show k + 1 + i = k + (i + 1) by omega]
theorem pairs_len : ∀ (xs : List PyData) (k : Nat), (pairs k xs).length = xs.length
  | [], _ => rfl
  | x :: xs, k => by
    show (pairs (k + 1) xs).length + 1 = _
    rw [pairs_len]; rfl
theorem wk_enum {xs : List PyData} {a : Addr} {vs : List V} (z : g.Z a = some (.lst vs)) (r : RpL pg.K g.Z xs vs) : Wk pg.K g (pairs 0 xs) (Ite pg.K a) where
  go := fun i g' h' H' s m hi => by
    rw [pairs_len] at hi
    obtain ⟨v, e2, _⟩ := r.get (List.getElem?_eq_getElem hi)
    exact ⟨vs, v, .of (s.sub _ _ (m _ _ z)), e2⟩
  stop := fun g' h' H' s m => ⟨vs, .of (s.sub _ _ (m _ _ z)), by rw [pairs_len, r.length]; exact Nat.le_refl _⟩
  yld := fun i g' h' H' x H'' s m hi y => by
    obtain ⟨T, w, e0, nT, e1, y⟩ := y
    subst e0 e1
    rw [pairs_len] at hi
    obtain ⟨d, e2, e3⟩ := pairs_get xs 0 i hi
    obtain ⟨v, e4, r4⟩ := r.get e2
    have := (y vs (.of (s.sub _ _ (m _ _ z)))).symm.trans e4
    cases this
    obtain ⟨s2, p2⟩ := s.frozen nT (.tup [.int (i : Nat), w])
    refine ⟨_, _, e3, s2, p2, ?_⟩
    show Rp _ _ _ _
    simp only [Rp]
    refine ⟨T, _, rfl, .of (by show upd _ T _ T = _; rw [upd_same]), RpL.cons (by simp only [Rp, Nat.zero_add]) (RpL.cons (Rp.mono p2.z _ _ (Rp.mono m _ _ r4)) RpL.nil)⟩
theorem zips_get : ∀ (xs ys : List PyData) (i : Nat), i < (zips xs ys).length → ∃ x y, xs[i]? = some x ∧ ys[i]? = some y ∧ (zips xs ys)[i]? = some (.d (.tuple [x, y]))
  | [], _, _, h => absurd h (Nat.not_lt_zero _)
  | _ :: _, [], _, h => absurd h (Nat.not_lt_zero _)
  | x :: xs, y :: ys, 0, _ => ⟨x, y, rfl, rfl, rfl⟩
  | x :: xs, y :: ys, i + 1, h => by
    obtain ⟨u, w, e1, e2, e3⟩ := zips_get xs ys i (by simpa [zips] using h)
    exact ⟨u, w, by simpa using e1, by simpa using e2, by simpa [zips] using e3⟩
theorem zips_len : ∀ (xs ys : List PyData), xs.length ≤ (zips xs ys).length ∨ ys.length ≤ (zips xs ys).length
  | [], _ => .inl (Nat.zero_le _)
  | _ :: _, [] => .inr (Nat.zero_le _)
  | x :: xs, y :: ys => by
    rcases zips_len xs ys with h | h
    · exact .inl (Nat.succ_le_succ h)
    · exact .inr (Nat.succ_le_succ h)
theorem wk_zip {xs ys : List PyData} {a b : Addr} {vs ws : List V} (z : g.Z a = some (.lst vs)) (r : RpL pg.K g.Z xs vs) (z2 : g.Z b = some (.lst ws)) (r2 : RpL pg.K g.Z ys ws) : Wk pg.K g (zips xs ys) (Itz pg.K a b) where
  go := fun i g' h' H' s m hi => by
    obtain ⟨x, y, e1, e2, _⟩ := zips_get xs ys i hi
    obtain ⟨v, e3, _⟩ := r.get e1
    obtain ⟨w, e4, _⟩ := r2.get e2
    exact ⟨vs, ws, v, w, .of (s.sub _ _ (m _ _ z)), .of (s.sub _ _ (m _ _ z2)), e3, e4⟩
  stop := fun g' h' H' s m => ⟨vs, ws, .of (s.sub _ _ (m _ _ z)), .of (s.sub _ _ (m _ _ z2)), by rw [r.length, r2.length]; exact zips_len xs ys⟩
  yld := fun i g' h' H' x H'' s m hi y => by
    obtain ⟨T, p, q, e0, nT, e1, y1, y2⟩ := y
    subst e0 e1
    obtain ⟨d, e, e2, e3, e4⟩ := zips_get xs ys i hi
    obtain ⟨v, e5, r5⟩ := r.get e2
    obtain ⟨w, e6, r6⟩ := r2.get e3
    have t1 := (y1 vs (.of (s.sub _ _ (m _ _ z)))).symm.trans e5
    have t2 := (y2 ws (.of (s.sub _ _ (m _ _ z2)))).symm.trans e6
    cases t1; cases t2
    obtain ⟨s2, p2⟩ := s.frozen nT (.tup [p, q])
    refine ⟨_, _, e4, s2, p2, ?_⟩
    show Rp _ _ _ _
    simp only [Rp]
    exact ⟨T, _, rfl, .of (by show upd _ T _ T = _; rw [upd_same]), RpL.cons (Rp.mono p2.z _ _ (Rp.mono m _ _ r5)) (RpL.cons (Rp.mono p2.z _ _ (Rp.mono m _ _ r6)) RpL.nil)⟩

/-- what a for, a comprehension walks -/
def itR (C : Cf) (G : Nat → Option PyData) (k : Mi.It) (es : List Te) (env : En) (h : Sh) : R (List Vl) := (evEs C G es env h).bind fun xs h1 => match evIt k xs with
  | some items => .ok items h1
  | none => .no
theorem bt_nm (gx : GX X c pg tb G C n) {x : Str} (hx : x ∈ bNames) : X.mg x = none := by rw [gx.hm]; exact gx.bt x hx
theorem okEs_stars {pk : Bool} : ∀ {es : List Te} {ees : List Expr}, okEs c tb pk es ees = true → noStars ees = true
  | [], [], _ => rfl
  | e :: es, e' :: es', ok => by
    simp only [okEs, Bool.and_eq_true] at ok
    rw [noStars, Bool.and_eq_true]
    exact ⟨ok.1.2, okEs_stars ok.2⟩
  | [], _ :: _, ok => by simp [okEs] at ok
  | _ :: _, [], ok => by simp [okEs] at ok
theorem star1 {a : Expr} {env : Env} (h : noStars [a] = true) : starEach [a] env = [(false, eval a env)] := by
  rw [noStars, Bool.and_eq_true] at h
  exact star_cons h.1
theorem star2 {a b : Expr} {env : Env} (h : noStars [a, b] = true) : starEach [a, b] env = [(false, eval a env), (false, eval b env)] := by
  rw [noStars, Bool.and_eq_true] at h
  rw [star_cons h.1, star1 h.2]
theorem evIt_some {k : Mi.It} {xs items : List Vl} (e : evIt k xs = some items) :
    (k = .seq ∧ ∃ x ys, xs = [.d x] ∧ seqD x = some ys ∧ items = ys.map .d) ∨ (k = .range1 ∧ ∃ j, xs = [.d (.int j)] ∧ (-1000000 ≤ j ∧ j ≤ 1000000) ∧ items = rng 0 j.toNat) ∨
    (k = .range2 ∧ ∃ i j, xs = [.d (.int i), .d (.int j)] ∧ (-1000000 ≤ i ∧ i ≤ 1000000 ∧ -1000000 ≤ j ∧ j ≤ 1000000) ∧ items = rng i (j - i).toNat) ∨
    (k = .enum ∧ ∃ ys, xs = [.d (.list ys)] ∧ items = pairs 0 ys) ∨ (k = .zip ∧ ∃ ys zs, xs = [.d (.list ys), .d (.list zs)] ∧ items = zips ys zs) := by
  unfold evIt at e
  split at e
  · obtain ⟨ys, e1, rfl⟩ := Option.map_eq_some_iff.mp e
    exact .inl ⟨rfl, _, ys, rfl, e1, rfl⟩
  · split at e
    · rename_i hc
      cases e
      exact .inr (.inl ⟨rfl, _, rfl, hc, rfl⟩)
    · cases e
  · split at e
    · rename_i hc
      cases e
      exact .inr (.inr (.inl ⟨rfl, _, _, rfl, hc, rfl⟩))
    · cases e
  · cases e
    exact .inr (.inr (.inr (.inl ⟨rfl, _, rfl, rfl⟩)))
  · cases e
    exact .inr (.inr (.inr (.inr ⟨rfl, _, _, rfl, rfl⟩)))
  · cases e
theorem one_of {x : Vl} {vs : List V} (r : ArR pg.K false g H [x] vs) : ∃ v, vs = [v] ∧ VlR pg.K g x v := by
  obtain ⟨v, t, rfl, r1, r2⟩ := r
  have r2 : t = [] := r2
  subst r2
  exact ⟨v, rfl, r1⟩
theorem two_of {x y : Vl} {vs : List V} (r : ArR pg.K false g H [x, y] vs) : ∃ v u, vs = [v, u] ∧ VlR pg.K g x v ∧ VlR pg.K g y u := by
  obtain ⟨v, t, rfl, r1, u, t2, rfl, r2, r3⟩ := r
  have r3 : t2 = [] := r3
  subst r3
  exact ⟨v, u, rfl, r1, r2⟩
theorem SI.all {tg : Tg} {k : Mi.It} {es : List Te} {te it : Expr} (gx : GX X c pg tb G C n) (ok : itB c (okEs c tb false es) tg k it = true) (okt : ∃ c', tgB c' tg te = true)
    (q1 : ∀ ees, okEs c tb false es ees = true → SR pg X σ g H (ArR pg.K false) (evEs C G es env h) (wA X ees σ H))
    (q0 : ∀ e, k = .seq → okEs c tb false es [e] = true → SR pg X σ g H (fun g H xs v => ∃ x, xs = [x] ∧ VlR pg.K g x v) (evEs C G es env h) (wE X e σ H)) :
    SR pg X σ g H (fun g _ items J => Wk pg.K g items J) (itR C G k es env h) (wI X te it σ H) := by
  unfold itR
  unfold itB at ok
  have tupT : isTt tg = true → ∃ elts kk tpos, te = .Tuple elts kk tpos := fun ht => by
    obtain ⟨c', okt⟩ := okt
    cases tg with
    | t is => cases te <;> simp only [tgB] at okt <;> first | exact ⟨_, _, _, rfl⟩ | cases okt
    | _ => cases ht
  split at ok
  · rw [Bool.and_eq_true, Bool.and_eq_true] at ok
    obtain ⟨⟨ex, og⟩, oe⟩ := ok
    have ex := of_decide_eq_true ex
    subst ex
    refine SR.bind (w2 := fun vs H1 (Q : L2.It → Hp → Prop) => ∃ j : Int, vs = [V.int j] ∧ -(2 ^ 62) ≤ j ∧ j < 2 ^ 62 ∧ Q (Itr 0 j.toNat) H1) (q1 _ oe)
      (fun Q hq => wI_of (pi_range1 (gx.gl' (glB_of og).1) (bt_nm gx (by decide +kernel)) pa_w (star1 (okEs_stars oe))) hq) fun xs h1 vs H1 g1 e1 s1 p1 r1 => ?_
    cases e : evIt .range1 xs with
    | none => exact trivial
    | some items =>
      obtain ⟨_, j, rfl, hj, rfl⟩ := ((evIt_some e).resolve_left (fun z => nomatch z.1)).resolve_right (fun z => by rcases z with z | z | z <;> cases z.1)
      obtain ⟨v, rfl, r⟩ := one_of r1
      cases (show v = .int j from by simpa only [VlR, Rp] using r)
      refine fun Q hQ => ⟨j, rfl, ?_, ?_, hQ _ H1 g1 s1 Pres.refl wk_rng⟩
      · omega
      · omega
  · rw [Bool.and_eq_true, Bool.and_eq_true] at ok
    obtain ⟨⟨ex, og⟩, oe⟩ := ok
    have ex := of_decide_eq_true ex
    subst ex
    have st := star2 (env := X.env) (okEs_stars oe)
    have st1 := okEs_stars oe
    rw [noStars, Bool.and_eq_true] at st1
    refine SR.bind (w2 := fun vs H1 (Q : L2.It → Hp → Prop) => ∃ i j : Int, vs = [V.int i, V.int j] ∧ (-(2 ^ 62) ≤ i ∧ i < 2 ^ 62 ∧ -(2 ^ 62) ≤ j ∧ j < 2 ^ 62) ∧ Q (Itr i (j - i).toNat) H1) (q1 _ oe)
      (fun Q hq => wI_of (pi_range2 (gx.gl' (glB_of og).1) (bt_nm gx (by decide +kernel)) pa_w st (star1 st1.2)) hq) fun xs h1 vs H1 g1 e1 s1 p1 r1 => ?_
    cases e : evIt .range2 xs with
    | none => exact trivial
    | some items =>
      obtain ⟨i, j, rfl, hj, rfl⟩ : ∃ i j, xs = [.d (.int i), .d (.int j)] ∧ (-1000000 ≤ i ∧ i ≤ 1000000 ∧ -1000000 ≤ j ∧ j ≤ 1000000) ∧ items = rng i (j - i).toNat := by
        rcases evIt_some e with z | z | z | z | z <;> first | (cases z.1; done) | exact z.2
      obtain ⟨v, u, rfl, r, r2⟩ := two_of r1
      cases (show v = .int i from by simpa only [VlR, Rp] using r)
      cases (show u = .int j from by simpa only [VlR, Rp] using r2)
      refine fun Q hQ => ⟨i, j, rfl, ⟨?_, ?_, ?_, ?_⟩, hQ _ H1 g1 s1 Pres.refl wk_rng⟩
      · omega
      · omega
      · omega
      · omega
  · rw [Bool.and_eq_true, Bool.and_eq_true, Bool.and_eq_true] at ok
    obtain ⟨⟨⟨ex, og⟩, oe⟩, ot⟩ := ok
    have ex := of_decide_eq_true ex
    subst ex
    obtain ⟨elts, kk, tpos, rfl⟩ := tupT ot
    refine SR.bind (w2 := fun vs H1 (Q : L2.It → Hp → Prop) => ∃ a xs, vs = [V.ref a] ∧ SqL X.K H1 a xs ∧ Q (Ite X.K a) H1) (q1 _ oe)
      (fun Q hq => wI_of (pi_enum (gx.gl' (glB_of og).1) (bt_nm gx (by decide +kernel)) pa_w (star1 (okEs_stars oe))) hq) fun xs h1 vs H1 g1 e1 s1 p1 r1 => ?_
    cases e : evIt .enum xs with
    | none => exact trivial
    | some items =>
      obtain ⟨ys, rfl, rfl⟩ : ∃ ys, xs = [.d (.list ys)] ∧ items = pairs 0 ys := by
        rcases evIt_some e with z | z | z | z | z <;> first | (cases z.1; done) | exact z.2
      obtain ⟨v, rfl, r⟩ := one_of r1
      simp only [VlR, Rp] at r
      obtain ⟨a, ws, rfl, hz, rl⟩ := r
      exact fun Q hQ => ⟨a, ws, rfl, .of (s1.sub _ _ hz), hQ _ H1 g1 s1 Pres.refl (gx.hK ▸ wk_enum hz rl)⟩
  · rw [Bool.and_eq_true, Bool.and_eq_true, Bool.and_eq_true] at ok
    obtain ⟨⟨⟨ex, og⟩, oe⟩, ot⟩ := ok
    have ex := of_decide_eq_true ex
    subst ex
    obtain ⟨elts, kk, tpos, rfl⟩ := tupT ot
    have st1 := okEs_stars oe
    rw [noStars, Bool.and_eq_true] at st1
    refine SR.bind (w2 := fun vs H1 (Q : L2.It → Hp → Prop) => ∃ a b xs ys, vs = [V.ref a, V.ref b] ∧ SqL X.K H1 a xs ∧ SqL X.K H1 b ys ∧ Q (Itz X.K a b) H1) (q1 _ oe)
      (fun Q hq => wI_of (pi_zip (gx.gl' (glB_of og).1) (bt_nm gx (by decide +kernel)) pa_w (star_cons st1.1) (star_any st1.2)) hq) fun xs h1 vs H1 g1 e1 s1 p1 r1 => ?_
    cases e : evIt .zip xs with
    | none => exact trivial
    | some items =>
      obtain ⟨ys, zs, rfl, rfl⟩ : ∃ ys zs, xs = [.d (.list ys), .d (.list zs)] ∧ items = zips ys zs := by
        rcases evIt_some e with z | z | z | z | z <;> first | (cases z.1; done) | exact z.2
      obtain ⟨v, u, rfl, r, r2⟩ := two_of r1
      simp only [VlR, Rp] at r r2
      obtain ⟨a, ws, rfl, hz, rl⟩ := r
      obtain ⟨b, ws2, rfl, hz2, rl2⟩ := r2
      exact fun Q hQ => ⟨a, b, ws, ws2, rfl, .of (s1.sub _ _ hz), .of (s1.sub _ _ hz2), hQ _ H1 g1 s1 Pres.refl (gx.hK ▸ wk_zip hz rl hz2 rl2)⟩
  · rw [Bool.and_eq_true] at ok
    obtain ⟨oe, os⟩ := ok
    refine SR.bind (w2 := fun v H1 (Q : L2.It → Hp → Prop) => ∃ a, v = V.ref a ∧ (((∃ xs, SqL X.K H1 a xs) ∧ Q (Itl X.K a) H1) ∨ ((∃ xs, SqT X.K H1 a xs) ∧ Q (Itt X.K a) H1))) (q0 _ rfl oe)
      (fun Q hq => wI_of (pi_seq pe_w) hq) fun xs h1 v H1 g1 e1 s1 p1 r1 => ?_
    obtain ⟨x, rfl, r⟩ := r1
    cases e : evIt .seq [x] with
    | none => exact trivial
    | some items =>
      obtain ⟨d, ys, ex, e2, rfl⟩ : ∃ d ys, [x] = [.d d] ∧ seqD d = some ys ∧ items = ys.map .d := by
        rcases evIt_some e with z | z | z | z | z <;> first | (cases z.1; done) | exact z.2
      cases ex
      unfold seqD at e2
      split at e2
      · cases e2
        simp only [VlR, Rp] at r
        obtain ⟨a, ws, rfl, hz, rl⟩ := r
        exact fun Q hQ => ⟨a, rfl, .inr ⟨⟨ws, gx.hK ▸ sqT_mono s1.sub hz⟩, hQ _ H1 g1 s1 Pres.refl (gx.hK ▸ wk_tup hz rl)⟩⟩
      · cases e2
        simp only [VlR, Rp] at r
        obtain ⟨a, ws, rfl, hz, rl⟩ := r
        exact fun Q hQ => ⟨a, rfl, .inl ⟨⟨ws, .of (s1.sub _ _ hz)⟩, hQ _ H1 g1 s1 Pres.refl (gx.hK ▸ wk_list hz rl)⟩⟩
      · cases e2
  · cases ok
end
end Mi
/-! Mi: comprehensions; all expressions. -/
namespace Mi
open PySem PySem.Spec PyProof.Rows L2
section
variable {pg : Pg} {tb : Tb} {G : Nat → Option PyData} {C : Cf} {n : Nat} {X : Cx} {c : Cd} {g : Gh} {H : Hp} {σ : Sg} {h : Sh} {env : En}

theorem EnR.unset {K : PySem.W.Frag} (r : EnR K g H env σ) {i : Nat} {o : Option V} : EnR K g H (env.set i .no) (σ.set i o) := by
  refine ⟨by rw [List.length_set, List.length_set]; exact r.len, fun j s e => ?_, fun j k xs ys a e1 e2 e3 e4 => ?_⟩
  · by_cases hj : j = i
    · subst hj
      have hl : j < env.length := by
        have := (List.getElem?_eq_some_iff.mp e).1
        rw [List.length_set] at this
        exact this
      rw [List.getElem?_set_self hl] at e
      cases e
      exact ⟨o, by rw [List.getElem?_set_self (by rw [← r.len]; exact hl)], trivial⟩
    · rw [List.getElem?_set_ne (Ne.symm hj)] at e
      obtain ⟨u, q1, q2⟩ := r.at_ j s e
      exact ⟨u, by rw [List.getElem?_set_ne (Ne.symm hj)]; exact q1, q2⟩
  · have key : ∀ {j : Nat} {xs : List PyData}, (env.set i .no)[j]? = some (.own xs) → j ≠ i := fun {j xs} e z => by
      subst z
      have hl : j < env.length := by
        have := (List.getElem?_eq_some_iff.mp e).1
        rw [List.length_set] at this
        exact this
      rw [List.getElem?_set_self hl] at e
      cases e
    have hj := key e1
    have hk := key e2
    rw [List.getElem?_set_ne (Ne.symm hj)] at e1 e3
    rw [List.getElem?_set_ne (Ne.symm hk)] at e2 e4
    exact r.dist j k xs ys a e1 e2 e3 e4
theorem EnR.wipe {K : PySem.W.Frag} (r : EnR K g H env σ) : ∀ ws : List Nat, EnR K g H (wipeE ws env) (L2.wipe σ ws)
  | [] => r
  | w :: ws => (EnR.wipe r ws).unset
theorem wipe_wipe (σ : Sg) : ∀ ws vs : List Nat, (∀ i ∈ vs, i ∈ ws) → L2.wipe (L2.wipe σ vs) ws = L2.wipe σ ws
  | ws, [], _ => rfl
  | ws, v :: vs, m => by
    show L2.wipe ((L2.wipe σ vs).set v none) ws = _
    rw [bindIs_ok.wipe_set (m v List.mem_cons_self), wipe_wipe σ ws vs fun i hi => m i (List.mem_cons_of_mem _ hi)]
/-- a list that stands apart is changed -/
theorem Sim.apart (s : Sim pg.K g h H) {a : Addr} (z : g.Z a = none) (ni : a ∉ g.ι) (o : HO) : Sim pg.K g h (upd H a o) := by
  refine ⟨fun b u e => ?_, s.nd, s.len, s.out, fun k u e => ?_⟩
  · rw [upd_ne (fun y => by rw [y, z] at e; cases e)]
    exact s.sub _ _ e
  · obtain ⟨b, e1, r⟩ := s.obj k u e
    refine ⟨b, e1, ?_⟩
    have hb : b ≠ a := fun y => ni (y ▸ List.mem_of_getElem? e1)
    cases u with
    | lst xs =>
      obtain ⟨vs, q, r⟩ := r
      exact ⟨vs, by rw [upd_ne hb]; exact q, r⟩
theorem Pres.apart {g0 : Gh} {H0 : Hp} (p : Pres g0 H0 g H) {a : Addr} (n0 : H0 a = none) (o : HO) : Pres g0 H0 g (upd H a o) := by
  refine ⟨p.z, p.i, fun b u e nb => ?_⟩
  obtain ⟨k1, k2, k3⟩ := p.k b u e nb
  exact ⟨by rw [upd_ne (fun y => by rw [y, n0] at e; cases e)]; exact k1, k2, k3⟩

theorem noEx_ok {α : Type} {r : R α} {a : α} {h' : Sh} (e : noEx r = .ok a h') : r = .ok a h' := by
  cases r <;> simp [noEx] at e ⊢ <;> first | exact e | cases e
theorem bind_ok {α β : Type} {r : R α} {f : α → Sh → R β} {b : β} {h' : Sh} (e : r.bind f = .ok b h') : ∃ a h1, r = .ok a h1 ∧ f a h1 = .ok b h' := by
  cases r with
  | ok a h1 => exact ⟨a, h1, rfl, e⟩
  | ex _ _ => cases e
  | no => cases e
theorem compLoop_noEx {tg : Tg} {cond : En → Sh → R Bool} {elt : En → Sh → R Vl} {env : En} : ∀ (xs : List Vl) (h : Sh) (x : Er) (h' : Sh), compLoop tg cond elt env xs h ≠ .ex x h'
  | [], _, _, _ => fun e => by rw [compLoop] at e; cases e
  | y :: xs, h, x, h' => fun e => by
    rw [compLoop] at e
    split at e
    · cases e
    · rename_i env' _
      cases q : noEx (cond env' h) with
      | no => rw [q] at e; cases e
      | ex _ _ => cases q2 : cond env' h <;> rw [q2] at q <;> cases q
      | ok b h1 =>
        rw [q] at e
        simp only [R.bind] at e
        split at e
        · cases q2 : noEx (elt env' h1) with
          | no => rw [q2] at e; cases e
          | ex _ _ => cases q3 : elt env' h1 <;> rw [q3] at q2 <;> cases q2
          | ok z h2 =>
            rw [q2] at e
            cases z with
            | d z =>
              simp only at e
              cases q4 : compLoop tg cond elt env xs h2 with
              | ok _ _ => rw [q4] at e; cases e
              | no => rw [q4] at e; cases e
              | ex x2 h3 => exact compLoop_noEx xs h2 x2 h3 q4
            | _ => cases e
        · exact compLoop_noEx xs h1 x h' e

/-- a block's context -/
theorem GX.blk (gx : GX X c pg tb G C n) {scope : Scope} (kd : scope.kind = .function) (s0 : Shared) (H0 : Hp) (C0 : Addr) (cl : List (Str × Addr)) (fp : List Addr) :
    GX (X.blk s0 H0 scope (compEnvC scope cl C0 X.env) fp) (cdC c scope) pg tb G C n :=
  ⟨gx.hP, gx.hw, gx.hK, gx.hm, gx.hb, gx.N, gx.nd, by rw [cdC, ← gx.sc]; rfl, kd, rfl, gx.calm, PassesOwn.never, gx.room, gx.gd, gx.gl, gx.bt, gx.ct, gx.cl⟩
def wCs (X : Cx) (ifs : List Expr) (σ : Sg) (H : Hp) (Q : Bool → Hp → Prop) : Prop := ∀ (pins : List (Addr × Obj)) (s : Shared), Inv X pins σ H s →
  wpAny (model X.prog X.w) X.A (forIn ifs true fun c r => if r = true then do let ok ← isTrue c X.env (eval c X.env); pure (ForInStep.yield ok) else pure (ForInStep.yield r)) (TP X pins σ Q) X.xe s
theorem SL.compT {elt : Te} {tg : Tg} {k : Mi.It} {es cs : List Te} {elt' tg' it' : Expr} {ifs' : List Expr} {scope : Scope} {pos : Pos} (gx : GX X c pg tb G C n) (bk : blkC c.N c.sc scope (tgOwn tg tg') = true) (ot : tgB (cdC c scope) tg tg' = true)
    (on : (tgOwn tg tg').map (·.2) = tg.names) (ns : noSet it' = true) (s : Sim pg.K g h H) (en : EnR pg.K g H env σ)
    (q1 : SR pg X σ g H (fun g _ items J => Wk pg.K g items J) (itR C G k es env h) (wI X tg' it' σ H))
    (qc : ∀ X', GX X' (cdC c scope) pg tb G C n → ∀ env h σ g H, Sim pg.K g h H → EnR pg.K g H env σ → SR pg X' σ g H (fun _ _ (a b : Bool) => a = b) (evC C G cs env h) (wCs X' ifs' σ H))
    (qe : ∀ X', GX X' (cdC c scope) pg tb G C n → ∀ env h σ g H, Sim pg.K g h H → EnR pg.K g H env σ → SR pg X' σ g H (VlRel pg.K) (evE C G elt env h) (wE X' elt' σ H)) :
    SR pg X σ g H (NwR pg.K H) (evL C G (.comp elt tg k es cs) env h) (tLc (wI X tg' it') (gOf pg.K tg) (fun σ H Q => ∀ s0 H0 C0 cl fp, wCs (X.blk s0 H0 scope (compEnvC scope cl C0 X.env) fp) ifs' σ H Q) (fun σ H Q => ∀ s0 H0 C0 cl fp, wE (X.blk s0 H0 scope (compEnvC scope cl C0 X.env) fp) elt' σ H Q) tg.names σ H) := by
  have e0 : evL C G (.comp elt tg k es cs) env h = (itR C G k es env h).bind fun items h1 => if items.length ≤ SZ then compLoop tg (evC C G cs) (evE C G elt) (wipeE tg.names env) items h1 else .no := by
    rw [evL]
    unfold itR
    cases evEs C G es env h with
    | no => rfl
    | ex _ _ => rfl
    | ok xs h1 =>
      show (match evIt k xs with | some items => _ | none => _) = R.bind (match evIt k xs with | some items => _ | none => _) _
      cases evIt k xs <;> rfl
  rw [e0]
  have blk := blkOk_by bk
  have nst : (∃ is r, tg = .st is r) → False := fun ⟨is, r, e⟩ => by subst e; cases tg' <;> cases ot
  cases q : itR C G k es env h with
  | no => exact trivial
  | ex x h' =>
    rw [q] at q1
    exact fun W tk hW Q => q1 W tk hW _
  | ok items h1 =>
    rw [q] at q1
    show SR pg X σ g H (NwR pg.K H) (if items.length ≤ SZ then compLoop tg (evC C G cs) (evE C G elt) (wipeE tg.names env) items h1 else .no) _
    split
    · rename_i hsz
      cases ql : compLoop tg (evC C G cs) (evE C G elt) (wipeE tg.names env) items h1 with
      | no => exact trivial
      | ex x h' => exact (compLoop_noEx _ _ _ _ ql).elim
      | ok ys h' =>
        refine fun Q hQ => q1 _ fun J H1 g1 s1 p1 wk D nD => ?_
        obtain ⟨s2, p2, zD, iD⟩ := s1.loose nD (.lst [])
        refine ⟨fun i m Hc => m = items.length - i ∧ i ≤ items.length ∧ ∃ gc hc done vs rest, Sim pg.K gc hc Hc ∧ Pres g1 H1 gc Hc ∧ gc.Z D = none ∧ D ∉ gc.ι ∧ Hc D = some (.lst vs) ∧ RpL pg.K gc.Z done vs ∧
          compLoop tg (evC C G cs) (evE C G elt) (wipeE tg.names env) (items.drop i) hc = .ok rest h' ∧ done ++ rest = ys ∧ vs.length ≤ i,
          ⟨items.length, by omega, Nat.zero_le _, g1, h1, [], [], ys, s2, p2, zD, iD, upd_same, RpL.nil, ql, rfl, Nat.le_refl _⟩, ?_⟩
        rintro i m Hc ⟨rfl, hi, gc, hc, done, vs, rest, sc, pc, zc, ic, eD, rl, el, ey, hv⟩
        by_cases hlt : i < items.length
        · refine .inr ⟨wk.go i gc hc Hc sc pc.z hlt, fun H' => ∃ gc hc done vs rest, Sim pg.K gc hc H' ∧ Pres g1 H1 gc H' ∧ gc.Z D = none ∧ D ∉ gc.ι ∧ H' D = some (.lst vs) ∧ RpL pg.K gc.Z done vs ∧
            compLoop tg (evC C G cs) (evE C G elt) (wipeE tg.names env) (items.drop (i + 1)) hc = .ok rest h' ∧ done ++ rest = ys ∧ vs.length ≤ i + 1,
            fun H' hN => ⟨items.length - (i + 1), by omega, rfl, hlt, hN⟩, fun x' H' y => ?_⟩
          obtain ⟨g', y', ei, s', p', ry⟩ := wk.yld i gc hc Hc x' H' sc pc.z hlt y
          obtain ⟨kD, niD, zD'⟩ := p'.k D _ eD ic
          have zD' := zD' zc
          have edrop : items.drop i = y' :: items.drop (i + 1) := by
            rw [List.drop_eq_getElem_cons hlt]
            have := List.getElem?_eq_getElem hlt
            rw [ei] at this
            cases this
            rfl
          rw [edrop, compLoop] at el
          cases eb : bindTg tg y' (wipeE tg.names env) with
          | none => rw [eb] at el; cases el
          | some env' =>
            rw [eb] at el
            obtain ⟨b, h2, ec, el⟩ := bind_ok el
            have ec := noEx_ok ec
            have pall := pc.trans p'
            have enw : EnR pg.K g' H' (wipeE tg.names env) (L2.wipe σ tg.names) := (en.mono (p1.trans pall)).wipe _
            refine tg_ok nst eb s' ry enw fun σ' en' wp => ⟨?_, ?_⟩
            · rw [wp _ fun _ m => m, wipe_wipe _ _ _ fun _ m => m]
            · intro s0 H0 C0 cl fp
              have qc' := qc _ (gx.blk blk.kind s0 H0 C0 cl fp) env' hc σ' g' H' s' en'
              rw [ec] at qc'
              refine qc' _ fun b' H3 g3 s3 p3 rb => ?_
              subst rb
              obtain ⟨k3, n3, z3⟩ := p3.k D _ kD niD
              have z3 := z3 zD'
              cases b with
              | false =>
                rw [if_neg (by decide)]
                rw [if_neg (by decide)] at el
                exact ⟨g3, h2, done, vs, rest, s3, pall.trans p3, z3, n3, k3, RpL.mono (p'.trans p3).z _ _ rl, el, ey, by omega⟩
              | true =>
                rw [if_pos rfl] at el ⊢
                obtain ⟨z, h3, ee, el⟩ := bind_ok el
                have ee := noEx_ok ee
                cases z with
                | d z =>
                  obtain ⟨zs, h4, ef, el⟩ := bind_ok el
                  cases el
                  intro s0 H0 C0 cl fp
                  have qe' := qe _ (gx.blk blk.kind s0 H0 C0 cl fp) env' h2 σ' g3 H3 s3 (en'.mono p3)
                  rw [ee] at qe'
                  refine qe' _ fun v H4 g4 s4 p4 rv => ?_
                  obtain ⟨k4, n4, z4⟩ := p4.k D _ k3 n3
                  have z4 := z4 z3
                  refine ⟨vs, k4, by rw [← szL]; omega, g4, h3, done ++ [z], vs ++ [v], zs, s4.apart z4 n4 _, ((pall.trans p3).trans p4).apart nD _, z4, n4, upd_same, ?_, ef, by rw [List.append_assoc]; exact ey, by rw [List.length_append, List.length_singleton]; omega⟩
                  exact (RpL.mono ((p'.trans p3).trans p4).z _ _ rl).append (RpL.cons rv RpL.nil)
                | _ => cases el
        · have ei : i = items.length := by omega
          subst ei
          refine .inl ⟨wk.stop gc hc Hc sc pc.z, ?_⟩
          rw [List.drop_length, compLoop] at el
          cases el
          rw [List.append_nil] at ey
          subst ey
          refine hQ _ Hc gc sc (p1.trans pc) ⟨D, vs, rfl, eD, zc, ic, rl, ?_⟩
          cases n0 : H D with
          | none => rfl
          | some u =>
            by_cases mD : D ∈ g.ι
            · obtain ⟨t, et⟩ := (p1.trans pc).i
              exact (ic (by rw [et]; exact List.mem_append_left _ mD)).elim
            · have := (p1.k D u n0 mD).1
              rw [nD] at this; cases this
    · exact trivial
theorem SL.comp {elt : Te} {tg : Tg} {k : Mi.It} {es cs : List Te} {elt' tg' it' : Expr} {ifs' : List Expr} {scope : Scope} {pos : Pos} (gx : GX X c pg tb G C n) (bk : blkC c.N c.sc scope (tgOwn tg tg') = true) (ot : tgB (cdC c scope) tg tg' = true)
    (on : (tgOwn tg tg').map (·.2) = tg.names) (ns : noSet it' = true) (s : Sim pg.K g h H) (en : EnR pg.K g H env σ)
    (q1 : SR pg X σ g H (fun g _ items J => Wk pg.K g items J) (itR C G k es env h) (wI X tg' it' σ H))
    (qc : ∀ X', GX X' (cdC c scope) pg tb G C n → ∀ env h σ g H, Sim pg.K g h H → EnR pg.K g H env σ → SR pg X' σ g H (fun _ _ (a b : Bool) => a = b) (evC C G cs env h) (wCs X' ifs' σ H))
    (qe : ∀ X', GX X' (cdC c scope) pg tb G C n → ∀ env h σ g H, Sim pg.K g h H → EnR pg.K g H env σ → SR pg X' σ g H (VlRel pg.K) (evE C G elt env h) (wE X' elt' σ H)) :
    SR pg X σ g H (NwR pg.K H) (evL C G (.comp elt tg k es cs) env h) (wE X (.ListComp elt' [⟨tg', it', ifs', 0⟩] scope pos) σ H) := by
  have blk := blkOk_by bk
  have rule := pe_lc (X := X) (pos := pos) (elt := elt') (tg := tg') (iter := it') (ifs := ifs') (g := gOf pg.K tg)
    (tt := fun σ H Q => ∀ s0 H0 C0 cl fp, wCs (X.blk s0 H0 scope (compEnvC scope cl C0 X.env) fp) ifs' σ H Q) (te := fun σ H Q => ∀ s0 H0 C0 cl fp, wE (X.blk s0 H0 scope (compEnvC scope cl C0 X.env) fp) elt' σ H Q)
    gx.calm (by rw [gx.N]; exact gx.nd) pi_w (by rw [gx.N, gx.sc]; exact blk) (fun s0 H0 C0 cl fp => pg_of (gx.blk blk.kind s0 H0 C0 cl fp) ot) (fun s0 H0 C0 cl fp => ⟨fun pins s σ H Q I q => q s0 H0 C0 cl fp pins s I⟩)
    (fun s0 H0 C0 cl fp => ⟨fun pins s σ H Q I q => q s0 H0 C0 cl fp pins s I⟩) (folded_of ns)
  rw [on] at rule
  exact (SL.compT (pos := pos) gx bk ot on ns s en q1 qc qe).imp fun Q hq => wE_of rule hq
end
end Mi
/-! Mi: all expressions. -/
namespace Mi
open PySem PySem.Spec PyProof.Rows L2

/-! ### x[::-1] -/
section
variable {prog : Program} {w : World} {A : Around} {E : Value → Shared → Prop} {s : Shared}
theorem adjust_rev (n : Nat) : Builtin.Slice.sliceAdjust none none (-1) (n : Int) = ((n : Int) - 1, -1) := rfl
theorem places_rev (n : Nat) : Builtin.Slice.slicePlaces ((n : Int) - 1) (-1) (-1) = n := by
  unfold Builtin.Slice.slicePlaces
  have h1 : ¬ ((-1 : Int) > 0) := by omega
  simp only [h1, if_false]
  split
  · have : (- -1 : Int) = 1 := rfl
    rw [this, Int.ediv_one]
    omega
  · omega
theorem fm_congr {α β : Type} {f g : α → Option β} : ∀ {l : List α}, (∀ x ∈ l, f x = g x) → l.filterMap f = l.filterMap g
  | [], _ => rfl
  | a :: l, h => by rw [List.filterMap_cons, List.filterMap_cons, h a List.mem_cons_self, fm_congr fun x hx => h x (List.mem_cons_of_mem _ hx)]
theorem pick_rev (xs : Array Value) : ((List.range xs.size).filterMap fun (m : Nat) => xs[((xs.size : Int) - 1 + (m : Int) * -1).toNat]?) = xs.toList.reverse := by
  apply List.ext_getElem?
  intro i
  have key : ∀ k, k ≤ xs.size → (List.range k).filterMap (fun (m : Nat) => xs[((xs.size : Int) - 1 + (m : Int) * -1).toNat]?) = (List.range k).filterMap fun m => xs.toList.reverse[m]? := by
    intro k hk
    refine fm_congr fun m hm => ?_
    have hm := List.mem_range.mp hm
    have e : ((xs.size : Int) - 1 + (m : Int) * -1).toNat = xs.size - 1 - m := by omega
    rw [e, List.getElem?_reverse (by simpa using Nat.lt_of_lt_of_le hm hk)]
    simp
  rw [key _ (Nat.le_refl _)]
  have : ∀ (l : List Value), (List.range l.length).filterMap (fun m => l[m]?) = l := by
    intro l
    induction l with
    | nil => rfl
    | cons a t ih =>
      rw [List.length_cons, List.range_succ_eq_map, List.filterMap_cons]
      simp only [List.getElem?_cons_zero]
      rw [List.filterMap_map]
      congr 1
  have h2 := this xs.toList.reverse
  rw [List.length_reverse, Array.length_toList] at h2
  rw [h2]
theorem getItem_tuple_rev {t sl : Addr} {items : Array Value} {vl vu vs : Value} {Q : Value → Shared → Prop} (ht : IsTup s.heap t items) (hs : s.heap.IsSliceOf sl vl vu vs) (pl : IsPart vl none) (pu : IsPart vu none) (ps : IsPart vs (some (-1)))
    (h : Q (.ref s.heap.objs.size) { s with heap := s.heap.push { cls := .type "tuple", data := .seq items.toList.reverse.toArray } })
    (hsz : items.size ≤ sizeLine) : wpAny (model prog w) A (getItem (.ref t) (.ref sl)) Q E s := by
  have htake : sizeOk (.seq items.toList.reverse.toArray) := by
    show items.toList.reverse.toArray.size ≤ sizeLine
    rw [List.size_toArray, List.length_reverse, Array.length_toList]
    exact hsz
  obtain ⟨os, hos, hcs, hds⟩ := id hs
  have hTs : s.TypeIs (.ref sl) "slice" := ⟨os, hos, hcs⟩
  unfold getItem
  try with_reducible refine wpAny_holding ?_
  first | refine wpAny_bind (wpAny_pure ?_) | skip
  refine wpAny_bind (wpAny_sequenceKey ht.typeIs (by decide) ?_)
  refine wpAny_bind (wpAny_callSpecial?_slot (name := Str.ofString "__getitem__") ht.typeIs PyProof.Rows.slot_tuple_getitem
    (wpAny_call_entry PyProof.Rows.slot_tuple_getitem ht.typeIs entry_tuple_getitem ?_ (args_tuple_getitem _ _)))
  show wpAny _ _ (Builtin.Tuple.tupleItemsOf (.ref t) >>= _) _ _ s
  refine wpAny_bind (tupleItemsOf_ ht ?_)
  refine wpAny_bind (wpAny_typeOf hTs ?_)
  rw [if_pos (by decide)]
  refine wpAny_bind (show wpAny _ _ (Builtin.Slice.sliceApplied (.ref sl) (pure (items.size : Int))) _ _ s from ?_)
  unfold Builtin.Slice.sliceApplied Builtin.Slice.sliceFields
  refine wpAny_bind (wpAny_bind (wpAny_field hos hds (x := vl) rfl (wpAny_bind (wpAny_field hos hds (x := vu) rfl (wpAny_bind (wpAny_field hos hds (x := vs) rfl (wpAny_pure ?_)))))))
  refine wpAny_bind (HT.slicePart_ ps ?_)
  show wpAny _ _ (if ((-1 : Int) == 0) = true then _ else _) _ _ s
  rw [if_neg (by decide)]
  refine wpAny_bind (HT.slicePart_ pl (wpAny_bind (HT.slicePart_ pu (wpAny_bind (wpAny_pure ?_)))))
  show wpAny _ _ (match Builtin.Slice.sliceAdjust none none (-1) (items.size : Int) with | (lo, hi) => pure (lo, (-1 : Int), Builtin.Slice.slicePlaces lo hi (-1))) _ _ s
  rw [adjust_rev]
  show wpAny _ _ (pure ((items.size : Int) - 1, (-1 : Int), Builtin.Slice.slicePlaces ((items.size : Int) - 1) (-1) (-1))) _ _ s
  rw [places_rev]
  refine wpAny_pure ?_
  have hno : ¬ ((((items.size : Int) - 1) == 0 && (-1 : Int) == 1 && items.size == items.size) = true) := by
    intro q
    rw [Bool.and_eq_true, Bool.and_eq_true] at q
    exact absurd q.1.2 (by decide)
  show wpAny _ _ (if (((items.size : Int) - 1) == 0 && (-1 : Int) == 1 && items.size == items.size) = true then _ else _) _ _ s
  rw [if_neg hno, pick_rev]
  first
    | exact wpAny_bind (m := Builtin.Tuple.tupleExact _) (wpAny_newObj_type (wpAny_pure ⟨_, rfl, wpAny_pure h⟩) htake)
    | exact wpAny_bind (m := Builtin.Tuple.tupleExact _) (wpAny_newObj_type (wpAny_bind (wpAny_pure (wpAny_pure ⟨_, rfl, wpAny_pure h⟩))) htake)
    | exact wpAny_bind (wpAny_bind (m := Builtin.Tuple.tupleExact _) (wpAny_newObj_type (wpAny_pure (wpAny_pure ⟨_, rfl, wpAny_pure h⟩)) htake))
    | exact wpAny_bind (wpAny_bind (m := Builtin.Tuple.tupleExact _) (wpAny_newObj_type (wpAny_pure ⟨_, rfl, wpAny_pure h⟩) htake))
end
def tRevT (K : PySem.W.Frag) (te : TE) : TE := fun σ H Q => te σ H fun x H1 => ∃ a xs, x = .ref a ∧ SqT K H1 a xs ∧ ∀ p, H1 p = none → Q (.ref p) (upd H1 p (.tup xs.reverse))
theorem pe_revT {X : Cx} {e : Expr} {te : TE} {k : Nat} {p1 p2 p3 pos : Pos} (he : PE X e te) : PE X (.Subscript e (.Slice none none (some (.UnaryOp .USub (.Constant (.int 1) k p1) p2)) p3) pos) (tRevT X.K te) := by
  refine ⟨fun pins s σ H Q I h => ?_⟩
  refine Subscript_ (thn (he.run pins s σ H _ I h) fun v s1 ⟨x, H1, I1, r1, q1⟩ => ?_)
  obtain ⟨a, xs, ex, hx, q⟩ := q1
  subst ex
  cases r1
  have hst : PO X (some (.UnaryOp .USub (.Constant (.int 1) k p1) p2)) (tPart (tUn (rU fun i => .int (-i)) (tC (.int 1)))) := po_some (pe_un un_neg pe_int)
  refine wpAny_Slice (thn (po_none.run pins s1 σ H1 (fun o H2 => o = none ∧ H2 = H1) I1 ⟨rfl, rfl⟩) fun vl s2 ⟨l, H2, I2, pl, el, e2⟩ => ?_)
  subst el e2
  refine thn (po_none.run pins s2 σ H2 (fun o H3 => o = none ∧ H3 = H2) I2 ⟨rfl, rfl⟩) fun vu s3 ⟨u, H3, I3, pu, eu, e3⟩ => ?_
  subst eu e3
  refine thn (hst.run pins s3 σ H3 (fun o H4 => o = some (-1) ∧ H4 = H3) I3 ⟨1, rfl, -1, rfl, rfl, rfl⟩) fun vs s4 ⟨o, H4, I4, ps, eo, e4⟩ => ?_
  subst eo e4
  have I5 : Inv X pins σ H4 { s4 with heap := s4.heap.push { cls := .type "slice", data := .fields #[vl, vu, vs] } } := I4.kept (t' := s4.toks) fun b ob q => Heap.get?_push_of_some _ q
  obtain ⟨its, r, ht, hz⟩ := I5.tuple hx
  have hlen := r.length
  show wpAny (model X.prog X.w) X.A (subscriptTail e (.Slice none none (some (.UnaryOp .USub (.Constant (.int 1) k p1) p2)) p3) (.ref a) (.ref s4.heap.objs.size)) (EP X pins σ Q) X.xe { s4 with heap := s4.heap.push { cls := .type "slice", data := .fields #[vl, vu, vs] } }
  refine tail_any (ops := [.ref a, .ref s4.heap.objs.size]) ht.typeIs (PyProof.Rows.slot_tuple_getitem.lookup) ?_ (by with_unfolding_all rfl)
  refine getItem_tuple_rev ht (Heap.IsSliceOf.new _ vl vu vs) pl pu ps ?_ (by rw [List.size_toArray]; omega)
  refine ⟨.ref _, _, I5.laid (t' := s4.toks) (o := .tup xs.reverse) (fun b ob q => Heap.get?_push_of_some _ q) (Nat.le_refl _) ?_, rfl, q _ (I5.hok.fresh (Nat.le_refl _))⟩
  exact ⟨by rw [List.length_reverse]; exact hz, _, r.reverse, IsTup.new _ _⟩

section
variable {pg : Pg} {tb : Tb} {G : Nat → Option PyData} {C : Cf} {n : Nat} {X : Cx} {c : Cd} {g : Gh} {H : Hp} {σ : Sg} {h : Sh} {env : En}
theorem SE.rev {a : Te} {ea : Expr} {j : Nat} {p1 p2 p3 pos : Pos} {Ra : Gh → Hp → Vl → V → Prop} (gx : GX X c pg tb G C n) (ha : ∀ g H x v, Ra g H x v → PkR pg.K g H x v)
    (q1 : SR pg X σ g H Ra (evE C G a env h) (wE X ea σ H)) :
    SR pg X σ g H (VlRel pg.K) (evE C G (.rev a) env h) (wE X (.Subscript ea (.Slice none none (some (.UnaryOp .USub (.Constant (.int 1) j p1) p2)) p3) pos) σ H) := by
  rw [evE]
  refine SR.bind (w2 := fun x H1 (Q : VK) => (∃ a xs, x = .ref a ∧ SqL X.K H1 a xs ∧ ∀ p, H1 p = none → Q (.ref p) (upd H1 p (.lst xs.reverse))) ∨ (∃ a xs, x = .ref a ∧ SqT X.K H1 a xs ∧ ∀ p, H1 p = none → Q (.ref p) (upd H1 p (.tup xs.reverse)))) q1 (fun Q hq => ?_) fun x h1 v H1 g1 _ s1 p1 r1 => ?_
  · intro pins s I
    have both : PE X (.Subscript ea (.Slice none none (some (.UnaryOp .USub (.Constant (.int 1) j p1) p2)) p3) pos) (fun σ H Q => wE X ea σ H fun x H1 => (∃ a xs, x = .ref a ∧ SqL X.K H1 a xs ∧ ∀ p, H1 p = none → Q (.ref p) (upd H1 p (.lst xs.reverse))) ∨ (∃ a xs, x = .ref a ∧ SqT X.K H1 a xs ∧ ∀ p, H1 p = none → Q (.ref p) (upd H1 p (.tup xs.reverse)))) := by
      refine ⟨fun pins s σ H Q I h => ?_⟩
      -- run the operand, then whichever rule fits
      refine Subscript_ (thn (h pins s I) fun v s1 ⟨x, H1, I1, r1, q1⟩ => ?_)
      rcases q1 with q1 | q1
      · obtain ⟨a, xs, ex, hx, q⟩ := q1
        subst ex
        cases r1
        have hst : PO X (some (.UnaryOp .USub (.Constant (.int 1) j p1) p2)) (tPart (tUn (rU fun i => .int (-i)) (tC (.int 1)))) := po_some (pe_un un_neg pe_int)
        refine wpAny_Slice (thn (po_none.run pins s1 σ H1 (fun o H2 => o = none ∧ H2 = H1) I1 ⟨rfl, rfl⟩) fun vl s2 ⟨l, H2, I2, pl, el, e2⟩ => ?_)
        subst el e2
        refine thn (po_none.run pins s2 σ H2 (fun o H3 => o = none ∧ H3 = H2) I2 ⟨rfl, rfl⟩) fun vu s3 ⟨u, H3, I3, pu, eu, e3⟩ => ?_
        subst eu e3
        refine thn (hst.run pins s3 σ H3 (fun o H4 => o = some (-1) ∧ H4 = H3) I3 ⟨1, rfl, -1, rfl, rfl, rfl⟩) fun vs s4 ⟨o, H4, I4, ps, eo, e4⟩ => ?_
        subst eo e4
        have I5 : Inv X pins σ H4 { s4 with heap := s4.heap.push { cls := .type "slice", data := .fields #[vl, vu, vs] } } := I4.kept (t' := s4.toks) fun b ob q => Heap.get?_push_of_some _ q
        obtain ⟨its, r, ht, hz⟩ := I5.list hx
        have hlen := r.length
        show wpAny (model X.prog X.w) X.A (subscriptTail ea (.Slice none none (some (.UnaryOp .USub (.Constant (.int 1) j p1) p2)) p3) (.ref a) (.ref s4.heap.objs.size)) (EP X pins σ Q) X.xe { s4 with heap := s4.heap.push { cls := .type "slice", data := .fields #[vl, vu, vs] } }
        refine tail_any (ops := [.ref a, .ref s4.heap.objs.size]) ht.isList.typeIs (PySem.slot_list_getitem.lookup) ?_ (by with_unfolding_all rfl)
        refine wpAny_getItem_list_slice ht.isList (Heap.IsSliceOf.new _ vl vu vs) pl pu ps (by decide) ?_ (by rw [List.size_toArray]; omega)
        rw [PySem.W.krv_pick]
        refine ⟨.ref _, _, I5.laid (t' := s4.toks) (o := .lst xs.reverse) (fun b ob q => Heap.get?_push_of_some _ q) (Nat.le_refl _) ?_, rfl, q _ (I5.hok.fresh (Nat.le_refl _))⟩
        exact ⟨by rw [List.length_reverse]; exact hz, _, 0, r.reverse, Heap.get?_push_size _ rfl⟩
      · obtain ⟨a, xs, ex, hx, q⟩ := q1
        subst ex
        cases r1
        have hst : PO X (some (.UnaryOp .USub (.Constant (.int 1) j p1) p2)) (tPart (tUn (rU fun i => .int (-i)) (tC (.int 1)))) := po_some (pe_un un_neg pe_int)
        refine wpAny_Slice (thn (po_none.run pins s1 σ H1 (fun o H2 => o = none ∧ H2 = H1) I1 ⟨rfl, rfl⟩) fun vl s2 ⟨l, H2, I2, pl, el, e2⟩ => ?_)
        subst el e2
        refine thn (po_none.run pins s2 σ H2 (fun o H3 => o = none ∧ H3 = H2) I2 ⟨rfl, rfl⟩) fun vu s3 ⟨u, H3, I3, pu, eu, e3⟩ => ?_
        subst eu e3
        refine thn (hst.run pins s3 σ H3 (fun o H4 => o = some (-1) ∧ H4 = H3) I3 ⟨1, rfl, -1, rfl, rfl, rfl⟩) fun vs s4 ⟨o, H4, I4, ps, eo, e4⟩ => ?_
        subst eo e4
        have I5 : Inv X pins σ H4 { s4 with heap := s4.heap.push { cls := .type "slice", data := .fields #[vl, vu, vs] } } := I4.kept (t' := s4.toks) fun b ob q => Heap.get?_push_of_some _ q
        obtain ⟨its, r, ht, hz⟩ := I5.tuple hx
        have hlen := r.length
        show wpAny (model X.prog X.w) X.A (subscriptTail ea (.Slice none none (some (.UnaryOp .USub (.Constant (.int 1) j p1) p2)) p3) (.ref a) (.ref s4.heap.objs.size)) (EP X pins σ Q) X.xe { s4 with heap := s4.heap.push { cls := .type "slice", data := .fields #[vl, vu, vs] } }
        refine tail_any (ops := [.ref a, .ref s4.heap.objs.size]) ht.typeIs (PyProof.Rows.slot_tuple_getitem.lookup) ?_ (by with_unfolding_all rfl)
        refine getItem_tuple_rev ht (Heap.IsSliceOf.new _ vl vu vs) pl pu ps ?_ (by rw [List.size_toArray]; omega)
        refine ⟨.ref _, _, I5.laid (t' := s4.toks) (o := .tup xs.reverse) (fun b ob q => Heap.get?_push_of_some _ q) (Nat.le_refl _) ?_, rfl, q _ (I5.hok.fresh (Nat.le_refl _))⟩
        exact ⟨by rw [List.length_reverse]; exact hz, _, r.reverse, IsTup.new _ _⟩
    exact both.run pins s σ H Q I hq
  · have rx := ha _ _ _ _ r1
    cases x with
    | d x =>
      refine SR.lift fun z e Q hQ => ?_
      unfold revD at e
      split at e
      · cases e
        obtain ⟨a, vs, rfl, hH, rl⟩ := PkD.tuple s1 rx
        exact .inr ⟨a, vs, rfl, gx.hK ▸ hH, ok_tup s1 rl.reverse hQ⟩
      · cases e
        obtain ⟨a, vs, rfl, hH, rl⟩ := PkD.list s1 rx
        exact .inl ⟨a, vs, rfl, .of hH, ok_lst s1 rl.reverse hQ⟩
      · cases e
    | _ => exact trivial

/-! ### isinstance -/
def dTy : PyData → String
  | .none => "NoneType"
  | .bool _ => "bool"
  | .int _ => "int"
  | .str _ => "str"
  | .list _ => "list"
  | .tuple _ => "tuple"
  | .dict _ => "dict"
def tyS : Ty → String
  | .int => "int"
  | .str => "str"
  | .bool => "bool"
  | .tuple => "tuple"
  | .list => "list"
  | .dict => "dict"
theorem sqT_ty {K : PySem.W.Frag} {a : Addr} {vs : List V} (q : SqT K H a vs) : TyX K H (.ref a) (.type "tuple") := by
  rcases q with (q | ⟨o, q⟩) | q
  · exact .base (.tup q)
  · exact .fTuple q
  · obtain ⟨o, its, nn, q1, q2, _⟩ := q
    exact .kTuple q1 q2
theorem ty_D {x : PyData} {v : V} (hK : X.K = pg.K) (s : Sim pg.K g h H) (r : PkD pg.K g H x v) : TyX X.K H v (.type (dTy x)) := by
  rw [hK]
  cases x with
  | none => rw [r.none]; exact .base .non
  | bool b => rw [r.bool]; exact .base (.bl b)
  | int i => rw [r.int]; exact .base (.int i)
  | str y => rw [r.str]; exact .base (.str y)
  | list xs =>
    obtain ⟨a, vs, rfl, hH, _⟩ := PkD.list s r
    exact .base (.lst hH)
  | tuple xs =>
    obtain ⟨a, vs, rfl, hH, _⟩ := PkD.tuple s r
    exact sqT_ty hH
  | dict kvs =>
    rcases r with r | ⟨ys, a, vs, e, _⟩
    · simp only [VlR, Rp] at r
      obtain ⟨a, l, rfl, z, _⟩ := r
      exact .base (.dK (s.sub _ _ z))
    · cases e
def kd : PyData → Nat
  | .none => 0
  | .bool _ => 1
  | .int _ => 2
  | .str _ => 3
  | .list _ => 4
  | .tuple _ => 5
  | .dict _ => 6
def kdS : Nat → String
  | 0 => "NoneType"
  | 1 => "bool"
  | 2 => "int"
  | 3 => "str"
  | 4 => "list"
  | 5 => "tuple"
  | _ => "dict"
def kdT : Ty → Nat → Bool
  | .int, 2 => true
  | .int, 1 => true
  | .str, 3 => true
  | .bool, 1 => true
  | .tuple, 5 => true
  | .list, 4 => true
  | .dict, 6 => true
  | _, _ => false
theorem kd_all : ∀ (t : Ty) (k : Fin 7), kitB (kdS k.val) (tyS t) = some (kdT t k.val) := by
  intro t
  cases t <;> decide +kernel
theorem kit_D {K : PySem.W.Frag} (x : PyData) (t : Ty) : PySem.W.kitOne K (.type (dTy x)) (.type (tyS t)) = some (isT t x) := by
  have e1 : dTy x = kdS (kd x) := by cases x <;> rfl
  have e2 : isT t x = kdT t (kd x) := by cases x <;> cases t <;> rfl
  have e3 : kd x < 7 := by cases x <;> simp [kd]
  rw [e1, e2]
  exact kit_ty (kd_all t ⟨kd x, e3⟩)
theorem SE.isi {e : Te} {t : Ty} {e' : Expr} {x : Str} {p pt pos : Pos} {Ra : Gh → Hp → Vl → V → Prop} (gx : GX X c pg tb G C n) (ha : ∀ g H x v, Ra g H x v → PkR pg.K g H x v) (hg : glB c x = true) (hx : x = ("isinstance" : Str)) (hgt : glB c (tyN t) = true) (ns : noStar e' = true)
    (q1 : SR pg X σ g H Ra (evE C G e env h) (wE X e' σ H)) :
    SR pg X σ g H (VlRel pg.K) (evE C G (.isi e [t]) env h) (wE X (.Call (.Name x p) [e', .Name (tyN t) pt] [] pos) σ H) := by
  subst hx
  obtain ⟨o1, o2⟩ := glB_of hg
  obtain ⟨o3, o4⟩ := glB_of hgt
  rw [evE]
  have hmt : X.mg (tyN t) = none := by
    rw [gx.hm]
    exact gx.bt _ (by cases t <;> decide +kernel)
  have pT : PE X (.Name (tyN t) pt) (tC (.ty (tyS t))) := pe_bltn (gx.gl' o3) hmt (u := .type (tyS t)) (by cases t <;> decide +kernel) rfl (by cases t <;> decide) o4
  have args : PA X [e', .Name (tyN t) pt] (tCons (wE X e') (tCons (tC (.ty (tyS t))) tNil)) := pa_cons pe_w (pa_cons pT pa_nil (star_cons rfl)) (star_cons ns)
  have rule := pe_callB (X := X) (p := p) (pos := pos) call_isi (gx.gl' o1) (bt_nm gx (by decide +kernel)) (by decide +kernel) args (by decide) o2 (star_cons ns) (by rfl)
  refine SR.bind (w2 := fun v H1 (Q : VK) => rIsi X.K [v, .ty (tyS t)] H1 Q) q1 (fun Q hq => wE_of rule hq) fun y h1 v H1 g1 _ s1 p1 r1 => ?_
  cases y with
  | d y =>
    refine fun Q hQ => ⟨v, .ty (tyS t), .type (dTy y), .type (tyS t), isT t y, rfl, .ty _, ty_D gx.hK s1 (ha _ _ _ _ r1), kit_D y t, ?_⟩
    have e1 : ([t].any fun t => isT t y) = isT t y := by simp
    have := ok_bl (i := isT t y) s1 (Q := Q)
    refine this fun v H' g' s' p' r' => hQ v H' g' s' p' ?_
    rw [e1]
    exact r'
  | _ => exact trivial

/-! ### and, or -/
abbrev QB : Gh → Hp → Bool → Bool → Prop := fun _ _ a b => a = b
theorem evAnd_cons2 {e e2 : Te} {r : List Te} : evAnd C G (e :: e2 :: r) env h = (evE C G e env h).bind fun x h1 => match truV x with
    | some true => evAnd C G (e2 :: r) env h1
    | some false => .ok x h1
    | none => .no := by
  rw [evAnd]
  all_goals first | rfl | exact fun z => nomatch z
theorem evOr_cons2 {e e2 : Te} {r : List Te} : evOr C G (e :: e2 :: r) env h = (evE C G e env h).bind fun x h1 => match truV x with
    | some true => .ok x h1
    | some false => evOr C G (e2 :: r) env h1
    | none => .no := by
  rw [evOr]
  all_goals first | rfl | exact fun z => nomatch z
theorem SAnd.one {e : Te} {ee : Expr} {pos : Pos} (q1 : SR pg X σ g H (VlRel pg.K) (evE C G e env h) (wE X ee σ H)) (q2 : SR pg X σ g H QB (tru (evE C G e env h)) (wT X ee σ H)) :
    SR pg X σ g H (VlRel pg.K) (evAnd C G [e] env h) (wE X (.BoolOp .And [ee] pos) σ H) ∧ SR pg X σ g H QB (tru (evAnd C G [e] env h)) (wT X (.BoolOp .And [ee] pos) σ H) := by
  rw [evAnd]
  exact ⟨q1.imp fun Q hq => wE_of (pe_one pe_w) hq, q2.imp fun Q hq pins s I => (pw_and1 pt_w).run _ pins s σ H Q I hq⟩
theorem SOr.one {e : Te} {ee : Expr} {pos : Pos} (q1 : SR pg X σ g H (VlRel pg.K) (evE C G e env h) (wE X ee σ H)) (q2 : SR pg X σ g H QB (tru (evE C G e env h)) (wT X ee σ H)) :
    SR pg X σ g H (VlRel pg.K) (evOr C G [e] env h) (wE X (.BoolOp .Or [ee] pos) σ H) ∧ SR pg X σ g H QB (tru (evOr C G [e] env h)) (wT X (.BoolOp .Or [ee] pos) σ H) := by
  rw [evOr]
  exact ⟨q1.imp fun Q hq => wE_of (pe_one pe_w) hq, q2.imp fun Q hq pins s I => (pw_or1 pt_w).run _ pins s σ H Q I hq⟩
theorem tru_ok_of {x : Vl} {b : Bool} (e : truV x = some b) : tru (.ok x h) = .ok b h := by
  unfold tru
  show (match truV x with | some b => R.ok b h | none => .no) = _
  rw [e]
theorem SAnd.cons {e e2 : Te} {r : List Te} {ee ee2 : Expr} {er : List Expr} {pos : Pos} (gx : GX X c pg tb G C n) (q1 : SR pg X σ g H (VlRel pg.K) (evE C G e env h) (wE X ee σ H)) (q2 : SR pg X σ g H QB (tru (evE C G e env h)) (wT X ee σ H))
    (q3 : ∀ h1 g1 H1, Sim pg.K g1 h1 H1 → Pres g H g1 H1 → SR pg X σ g1 H1 (VlRel pg.K) (evAnd C G (e2 :: r) env h1) (wE X (.BoolOp .And (ee2 :: er) pos) σ H1) ∧ SR pg X σ g1 H1 QB (tru (evAnd C G (e2 :: r) env h1)) (wT X (.BoolOp .And (ee2 :: er) pos) σ H1)) :
    SR pg X σ g H (VlRel pg.K) (evAnd C G (e :: e2 :: r) env h) (wE X (.BoolOp .And (ee :: ee2 :: er) pos) σ H) ∧ SR pg X σ g H QB (tru (evAnd C G (e :: e2 :: r) env h)) (wT X (.BoolOp .And (ee :: ee2 :: er) pos) σ H) := by
  rw [evAnd_cons2]
  constructor
  · refine SR.bind (w2 := fun x H1 Q => ∃ k, TruV X.K x H1 k ∧ if k = true then wE X (.BoolOp .And (ee2 :: er) pos) σ H1 Q else Q x H1) q1 (fun Q hq => wE_of (pe_andT pe_w pe_w) hq) fun x h1 v H1 g1 _ s1 p1 r1 => ?_
    cases t : truV x with
    | none => exact trivial
    | some k =>
      have tv := tru_V gx.hK s1 (.inl r1) t
      cases k with
      | true => exact (q3 h1 g1 H1 s1 p1).1.imp fun Q hq => ⟨true, tv, hq⟩
      | false => exact fun Q hQ => ⟨false, tv, hQ v H1 g1 s1 Pres.refl r1⟩
  · have e1 : tru ((evE C G e env h).bind fun x h1 => match truV x with
        | some true => evAnd C G (e2 :: r) env h1
        | some false => .ok x h1
        | none => .no) = (tru (evE C G e env h)).bind fun k h1 => if k = true then tru (evAnd C G (e2 :: r) env h1) else .ok false h1 := by
      rw [tru_bind]
      unfold tru
      cases evE C G e env h with
      | no => rfl
      | ex _ _ => rfl
      | ok x h1 =>
        show tru _ = R.bind (match truV x with | some b => R.ok b h1 | none => .no) _
        cases t : truV x with
        | none => rfl
        | some k => cases k with
          | true => rfl
          | false => exact tru_ok_of t
    rw [e1]
    refine SR.bind (w2 := fun k H1 Q => if k = true then wT X (.BoolOp .And (ee2 :: er) pos) σ H1 Q else Q false H1) q2 (fun Q hq pins s I => ?_) fun k h1 v H1 g1 _ s1 p1 r1 => ?_
    · refine isTrue_and (thn (hq pins s I) fun k s1 ⟨H1, I1, q⟩ => ?_)
      cases k with
      | true => exact q pins s1 I1
      | false => exact ⟨H1, I1, q⟩
    · subst r1
      cases k with
      | true => exact (q3 h1 g1 H1 s1 p1).2
      | false => exact fun Q hQ => hQ false H1 g1 s1 Pres.refl rfl
theorem SOr.cons {e e2 : Te} {r : List Te} {ee ee2 : Expr} {er : List Expr} {pos : Pos} (gx : GX X c pg tb G C n) (q1 : SR pg X σ g H (VlRel pg.K) (evE C G e env h) (wE X ee σ H)) (q2 : SR pg X σ g H QB (tru (evE C G e env h)) (wT X ee σ H))
    (q3 : ∀ h1 g1 H1, Sim pg.K g1 h1 H1 → Pres g H g1 H1 → SR pg X σ g1 H1 (VlRel pg.K) (evOr C G (e2 :: r) env h1) (wE X (.BoolOp .Or (ee2 :: er) pos) σ H1) ∧ SR pg X σ g1 H1 QB (tru (evOr C G (e2 :: r) env h1)) (wT X (.BoolOp .Or (ee2 :: er) pos) σ H1)) :
    SR pg X σ g H (VlRel pg.K) (evOr C G (e :: e2 :: r) env h) (wE X (.BoolOp .Or (ee :: ee2 :: er) pos) σ H) ∧ SR pg X σ g H QB (tru (evOr C G (e :: e2 :: r) env h)) (wT X (.BoolOp .Or (ee :: ee2 :: er) pos) σ H) := by
  rw [evOr_cons2]
  constructor
  · refine SR.bind (w2 := fun x H1 Q => ∃ k, TruV X.K x H1 k ∧ if k = true then Q x H1 else wE X (.BoolOp .Or (ee2 :: er) pos) σ H1 Q) q1 (fun Q hq => wE_of (pe_orT pe_w pe_w) hq) fun x h1 v H1 g1 _ s1 p1 r1 => ?_
    cases t : truV x with
    | none => exact trivial
    | some k =>
      have tv := tru_V gx.hK s1 (.inl r1) t
      cases k with
      | false => exact (q3 h1 g1 H1 s1 p1).1.imp fun Q hq => ⟨false, tv, hq⟩
      | true => exact fun Q hQ => ⟨true, tv, hQ v H1 g1 s1 Pres.refl r1⟩
  · have e1 : tru ((evE C G e env h).bind fun x h1 => match truV x with
        | some true => .ok x h1
        | some false => evOr C G (e2 :: r) env h1
        | none => .no) = (tru (evE C G e env h)).bind fun k h1 => if k = true then .ok true h1 else tru (evOr C G (e2 :: r) env h1) := by
      rw [tru_bind]
      unfold tru
      cases evE C G e env h with
      | no => rfl
      | ex _ _ => rfl
      | ok x h1 =>
        show tru _ = R.bind (match truV x with | some b => R.ok b h1 | none => .no) _
        cases t : truV x with
        | none => rfl
        | some k => cases k with
          | false => rfl
          | true => exact tru_ok_of t
    rw [e1]
    refine SR.bind (w2 := fun k H1 Q => if k = true then Q true H1 else wT X (.BoolOp .Or (ee2 :: er) pos) σ H1 Q) q2 (fun Q hq pins s I => ?_) fun k h1 v H1 g1 _ s1 p1 r1 => ?_
    · refine isTrue_or (thn (hq pins s I) fun k s1 ⟨H1, I1, q⟩ => ?_)
      cases k with
      | false => exact q pins s1 I1
      | true => exact ⟨H1, I1, q⟩
    · subst r1
      cases k with
      | false => exact (q3 h1 g1 H1 s1 p1).2
      | true => exact fun Q hQ => hQ true H1 g1 s1 Pres.refl rfl
end
end Mi
/-! Mi: all expressions: the recursion. -/
namespace Mi
open PySem PySem.Spec PyProof.Rows L2
section
variable {pg : Pg} {tb : Tb} {G : Nat → Option PyData} {C : Cf} {n : Nat}

/-- both readings of an expression -/
structure EOk (pg : Pg) (X : Cx) (G : Nat → Option PyData) (C : Cf) (p : Te) (e : Expr) (g : Gh) (H : Hp) (σ : Sg) (env : En) (h : Sh) : Prop where
  v : SR pg X σ g H (RelP pg.K p) (evE C G p env h) (wE X e σ H)
  t : SR pg X σ g H QB (tru (evE C G p env h)) (wT X e σ H)
abbrev AllE (pg : Pg) (tb : Tb) (G : Nat → Option PyData) (C : Cf) (n : Nat) (p : Te) : Prop :=
  ∀ (e : Expr) (X : Cx) (c : Cd) (g : Gh) (H : Hp) (σ : Sg) (env : En) (h : Sh), GX X c pg tb G C n → okE c tb p e = true → Sim pg.K g h H → EnR pg.K g H env σ → EOk pg X G C p e g H σ env h

variable {X : Cx} {c : Cd} {g : Gh} {H : Hp} {σ : Sg} {env : En} {h : Sh} {p : Te} {e : Expr}
theorem pk_of {p : Te} (g : Gh) (H : Hp) (x : Vl) (v : V) (r : RelP pg.K p g H x v) : PkR pg.K g H x v := r.pk
theorem EOk.byV (gx : GX X c pg tb G C n) (hv : byValue e = true) (q : SR pg X σ g H (RelP pg.K p) (evE C G p env h) (wE X e σ H)) : EOk pg X G C p e g H σ env h := ⟨q, test_of gx hv pk_of q⟩
theorem EOk.two (hp : isPeek p = false) (q : SR pg X σ g H (VlRel pg.K) (evE C G p env h) (wE X e σ H) ∧ SR pg X σ g H QB (tru (evE C G p env h)) (wT X e σ H)) : EOk pg X G C p e g H σ env h := ⟨q.1.toP hp, q.2⟩
theorem EOk.vl (q : EOk pg X G C p e g H σ env h) (hp : isPeek p = false) : SR pg X σ g H (VlRel pg.K) (evE C G p env h) (wE X e σ H) := q.v.weak fun _ _ _ _ r => RelP.vl hp r
theorem npk {p : Te} (h : (!isPeek p) = true) : isPeek p = false := by simpa using h

theorem okL_byV {l : Tl} {e : Expr} (ok : okL c tb l e = true) : byValue e = true := by
  unfold okL at ok
  split at ok <;> first | rfl | cases ok
theorem itB_noSet {oe : List Expr → Bool} {tg : Tg} {k : Mi.It} {e : Expr} (ok : itB c oe tg k e = true) : noSet e = true := by
  unfold itB at ok
  split at ok
  · rfl
  · rfl
  · rfl
  · rfl
  · rw [Bool.and_eq_true] at ok; exact ok.2
  · cases ok
mutual
theorem okE_all : ∀ p : Te, AllE pg tb G C n p
  | .cst v => by
    intro e X c g H σ env h gx ok s en
    unfold okE at ok
    split at ok
    all_goals first | (cases ok; done) | (rename_i hq; cases hq; done) | skip
    rename_i hq
    cases hq
    exact .byV gx rfl ((SE.cst s ok).toP rfl)
  | .var i => by
    intro e X c g H σ env h gx ok s en
    unfold okE at ok
    split at ok
    all_goals first | (cases ok; done) | (rename_i hq; cases hq; done) | skip
    rename_i hq
    cases hq
    exact .byV gx rfl ((SE.var gx s en ok).toP rfl)
  | .peek i => by
    intro e X c g H σ env h gx ok s en
    unfold okE at ok
    split at ok
    all_goals first | (cases ok; done) | (rename_i hq; cases hq; done) | skip
    rename_i hq
    cases hq
    exact .byV gx rfl (SE.peek gx s en ok)
  | .glob i => by
    intro e X c g H σ env h gx ok s en
    unfold okE at ok
    split at ok
    all_goals first | (cases ok; done) | (rename_i hq; cases hq; done) | skip
    rename_i hq
    cases hq
    exact .byV gx rfl ((SE.glob gx s ok).toP rfl)
  | .bin op a b => by
    intro e X c g H σ env h gx ok s en
    unfold okE at ok
    split at ok
    all_goals first | (cases ok; done) | (rename_i hq; cases hq; done) | skip
    rename_i hq
    cases hq
    simp only [Bool.and_eq_true] at ok
    obtain ⟨⟨o1, o2⟩, o3⟩ := ok
    have o1 := of_decide_eq_true o1
    subst o1
    exact .byV gx rfl ((SE.bin gx pk_of pk_of (okE_all a _ X c g H σ env h gx o2 s en).v (fun h1 g1 H1 s1 p1 => (okE_all b _ X c g1 H1 σ env h1 gx o3 s1 (en.mono p1)).v)).toP rfl)
  | .cmp op a b => by
    intro e X c g H σ env h gx ok s en
    unfold okE at ok
    split at ok
    all_goals first | (cases ok; done) | (rename_i hq; cases hq; done) | skip
    rename_i hq
    cases hq
    simp only [Bool.and_eq_true] at ok
    obtain ⟨⟨⟨o1, o2⟩, o3⟩, o4⟩ := ok
    have o1 := of_decide_eq_true o1
    subst o1
    exact .two rfl (SE.cmp gx o4 pk_of pk_of (okE_all a _ X c g H σ env h gx o2 s en).v (fun h1 g1 H1 s1 p1 => (okE_all b _ X c g1 H1 σ env h1 gx o3 s1 (en.mono p1)).v))
  | .chain o1 o2 a b d => by
    intro e X c g H σ env h gx ok s en
    unfold okE at ok
    split at ok
    all_goals first | (cases ok; done) | (rename_i hq; cases hq; done) | skip
    rename_i hq
    cases hq
    simp only [Bool.and_eq_true] at ok
    obtain ⟨⟨⟨⟨⟨q1, q2⟩, q3⟩, q4⟩, q5⟩, q6⟩ := ok
    have q1 := of_decide_eq_true q1
    have q2 := of_decide_eq_true q2
    subst q1 q2
    exact .two rfl (SE.chain gx q6 pk_of pk_of pk_of (okE_all a _ X c g H σ env h gx q3 s en).v (fun h1 g1 H1 s1 p1 => (okE_all b _ X c g1 H1 σ env h1 gx q4 s1 (en.mono p1)).v) (fun h1 g1 H1 s1 p1 => (okE_all d _ X c g1 H1 σ env h1 gx q5 s1 (en.mono p1)).v))
  | .and es => by
    intro e X c g H σ env h gx ok s en
    unfold okE at ok
    split at ok
    all_goals first | (cases ok; done) | (rename_i hq; cases hq; done) | skip
    rename_i hq
    cases hq
    exact .two rfl (by
      rw [evE]
      exact okAnd_all es _ X c g H σ env h _ gx ok s en)
  | .or es => by
    intro e X c g H σ env h gx ok s en
    unfold okE at ok
    split at ok
    all_goals first | (cases ok; done) | (rename_i hq; cases hq; done) | skip
    rename_i hq
    cases hq
    exact .two rfl (by
      rw [evE]
      exact okOr_all es _ X c g H σ env h _ gx ok s en)
  | .not a => by
    intro e X c g H σ env h gx ok s en
    unfold okE at ok
    split at ok
    all_goals first | (cases ok; done) | (rename_i hq; cases hq; done) | skip
    rename_i hq
    cases hq
    exact .two rfl (SE.not gx pk_of (okE_all a _ X c g H σ env h gx ok s en).v (okE_all a _ X c g H σ env h gx ok s en).t)
  | .ite t a b => by
    intro e X c g H σ env h gx ok s en
    unfold okE at ok
    split at ok
    all_goals first | (cases ok; done) | (rename_i hq; cases hq; done) | skip
    rename_i hq
    cases hq
    simp only [Bool.and_eq_true] at ok
    obtain ⟨⟨⟨⟨o1, o2⟩, o3⟩, o4⟩, o5⟩ := ok
    exact .two rfl (SE.ite (okE_all t _ X c g H σ env h gx o1 s en).t (fun h1 g1 H1 s1 p1 => ⟨(okE_all a _ X c g1 H1 σ env h1 gx o2 s1 (en.mono p1)).vl (npk o4), (okE_all a _ X c g1 H1 σ env h1 gx o2 s1 (en.mono p1)).t⟩)
      (fun h1 g1 H1 s1 p1 => ⟨(okE_all b _ X c g1 H1 σ env h1 gx o3 s1 (en.mono p1)).vl (npk o5), (okE_all b _ X c g1 H1 σ env h1 gx o3 s1 (en.mono p1)).t⟩))
  | .neg a => by
    intro e X c g H σ env h gx ok s en
    unfold okE at ok
    split at ok
    all_goals first | (cases ok; done) | (rename_i hq; cases hq; done) | skip
    rename_i hq
    cases hq
    exact .byV gx rfl ((SE.neg pk_of (okE_all a _ X c g H σ env h gx ok s en).v).toP rfl)
  | .tup es => by
    intro e X c g H σ env h gx ok s en
    unfold okE at ok
    split at ok
    all_goals first | (cases ok; done) | (rename_i hq; cases hq; done) | skip
    rename_i hq
    cases hq
    exact .byV gx rfl ((SE.tup (okEs_all es false _ X c g H σ env h gx ok s en)).toP rfl)
  | .dict0 => by
    intro e X c g H σ env h gx ok s en
    unfold okE at ok
    split at ok
    all_goals first | (cases ok; done) | (rename_i hq; cases hq; done) | skip
    rename_i hq
    cases hq
    exact .byV gx rfl ((SE.dict0 s).toP rfl)
  | .ofL l => by
    intro e X c g H σ env h gx ok s en
    unfold okE at ok
    have q := (SE.ofL (okL_all l _ X c g H σ env h gx ok s en)).toP (p := .ofL l) rfl
    exact .byV gx (okL_byV ok) q
  | .newl l => by
    intro e X c g H σ env h gx ok s en
    unfold okE at ok
    have q := (SE.newl (okL_all l _ X c g H σ env h gx ok s en)).toP (p := .newl l) rfl
    exact .byV gx (okL_byV ok) q
  | .ix a i => by
    intro e X c g H σ env h gx ok s en
    unfold okE at ok
    split at ok
    all_goals first | (cases ok; done) | (rename_i hq; cases hq; done) | skip
    rename_i hq
    cases hq
    simp only [Bool.and_eq_true] at ok
    obtain ⟨⟨o1, o2⟩, o3⟩ := ok
    exact .byV gx rfl ((SE.ix gx o3 pk_of pk_of (okE_all a _ X c g H σ env h gx o1 s en).v (fun h1 g1 H1 s1 p1 => (okE_all i _ X c g1 H1 σ env h1 gx o2 s1 (en.mono p1)).v)).toP rfl)
  | .sliceF a i => by
    intro e X c g H σ env h gx ok s en
    unfold okE at ok
    split at ok
    all_goals first | (cases ok; done) | (rename_i hq; cases hq; done) | skip
    rename_i hq
    cases hq
    simp only [Bool.and_eq_true] at ok
    obtain ⟨o1, o2⟩ := ok
    exact .byV gx rfl ((SE.sliceF gx pk_of pk_of (okE_all a _ X c g H σ env h gx o1 s en).v (fun h1 g1 H1 s1 p1 => (okE_all i _ X c g1 H1 σ env h1 gx o2 s1 (en.mono p1)).v)).toP rfl)
  | .sliceT a i => by
    intro e X c g H σ env h gx ok s en
    unfold okE at ok
    split at ok
    all_goals first | (cases ok; done) | (rename_i hq; cases hq; done) | skip
    rename_i hq
    cases hq
    simp only [Bool.and_eq_true] at ok
    obtain ⟨o1, o2⟩ := ok
    exact .byV gx rfl ((SE.sliceT gx pk_of pk_of (okE_all a _ X c g H σ env h gx o1 s en).v (fun h1 g1 H1 s1 p1 => (okE_all i _ X c g1 H1 σ env h1 gx o2 s1 (en.mono p1)).v)).toP rfl)
  | .sliceB a i j => by
    intro e X c g H σ env h gx ok s en
    unfold okE at ok
    split at ok
    all_goals first | (cases ok; done) | (rename_i hq; cases hq; done) | skip
    rename_i hq
    cases hq
    simp only [Bool.and_eq_true] at ok
    obtain ⟨⟨o1, o2⟩, o3⟩ := ok
    exact .byV gx rfl ((SE.sliceB gx pk_of pk_of pk_of (okE_all a _ X c g H σ env h gx o1 s en).v (fun h1 g1 H1 s1 p1 => (okE_all i _ X c g1 H1 σ env h1 gx o2 s1 (en.mono p1)).v) (fun h1 g1 H1 s1 p1 => (okE_all j _ X c g1 H1 σ env h1 gx o3 s1 (en.mono p1)).v)).toP rfl)
  | .rev a => by
    intro e X c g H σ env h gx ok s en
    unfold okE at ok
    split at ok
    all_goals first | (cases ok; done) | (rename_i hq; cases hq; done) | skip
    rename_i hq
    cases hq
    exact .byV gx rfl ((SE.rev gx pk_of (okE_all a _ X c g H σ env h gx ok s en).v).toP rfl)
  | .call f es => by
    intro e X c g H σ env h gx ok s en
    unfold okE at ok
    split at ok
    all_goals first | (cases ok; done) | (rename_i hq; cases hq; done) | skip
    rename_i hq
    cases hq
    simp only [Bool.and_eq_true] at ok
    obtain ⟨⟨o1, o2⟩, o3⟩ := ok
    exact .byV gx rfl ((SE.call gx o1 (of_decide_eq_true o2) (okEs_stars o3) (okEs_all es false _ X c g H σ env h gx o3 s en)).toP rfl)
  | .bi b es => by
    intro e X c g H σ env h gx ok s en
    unfold okE at ok
    split at ok
    all_goals first | (cases ok; done) | (rename_i hq; cases hq; done) | skip
    rename_i hq
    cases hq
    simp only [Bool.and_eq_true] at ok
    obtain ⟨⟨⟨o1, o2⟩, o3⟩, o4⟩ := ok
    rename_i ees _
    cases ees with
    | nil => cases o4
    | cons e0 er => exact .byV gx rfl ((SE.bi gx o1 (of_decide_eq_true o2) (okEs_stars o3) (okEs_all es true _ X c g H σ env h gx o3 s en)).toP rfl)
  | .isi a ts => by
    intro e X c g H σ env h gx ok s en
    unfold okE at ok
    split at ok
    all_goals first | (cases ok; done) | (rename_i hq; cases hq; done) | skip
    rename_i hq
    cases hq
    simp only [Bool.and_eq_true] at ok
    obtain ⟨⟨⟨⟨o1, o2⟩, o3⟩, o4⟩, o5⟩ := ok
    split at o5
    · rw [Bool.and_eq_true] at o5
      obtain ⟨o6, o7⟩ := o5
      have o6 := of_decide_eq_true o6
      subst o6
      exact .byV gx rfl ((SE.isi gx pk_of o1 (of_decide_eq_true o2) o7 o4 (okE_all a _ X c g H σ env h gx o3 s en).v).toP rfl)
    · cases o5
  | .me m r es => by
    intro e X c g H σ env h gx ok s en
    cases e <;> cases ok
theorem okEs_all : ∀ (es : List Te) (pk : Bool) (ees : List Expr) (X : Cx) (c : Cd) (g : Gh) (H : Hp) (σ : Sg) (env : En) (h : Sh), GX X c pg tb G C n → okEs c tb pk es ees = true → Sim pg.K g h H → EnR pg.K g H env σ → SR pg X σ g H (ArR pg.K pk) (evEs C G es env h) (wA X ees σ H)
  | [], pk, ees, X, c, g, H, σ, env, h, gx, ok, s, en => by
    cases ees with
    | nil => exact SA.nil s
    | cons _ _ => simp [okEs] at ok
  | p :: es, pk, ees, X, c, g, H, σ, env, h, gx, ok, s, en => by
    cases ees with
    | nil => simp [okEs] at ok
    | cons e ees =>
      simp only [okEs, Bool.and_eq_true] at ok
      obtain ⟨⟨⟨o1, o2⟩, o3⟩, o4⟩ := ok
      exact SA.cons o3 (okE_all p _ X c g H σ env h gx o1 s en).v o2 (fun h1 g1 H1 s1 p1 => okEs_all es pk _ X c g1 H1 σ env h1 gx o4 s1 (en.mono p1))
theorem okOne_all : ∀ (es : List Te) (e : Expr) (X : Cx) (c : Cd) (g : Gh) (H : Hp) (σ : Sg) (env : En) (h : Sh), GX X c pg tb G C n → okEs c tb false es [e] = true → Sim pg.K g h H → EnR pg.K g H env σ →
    SR pg X σ g H (fun g H xs v => ∃ x, xs = [x] ∧ VlR pg.K g x v) (evEs C G es env h) (wE X e σ H)
  | [], e, X, c, g, H, σ, env, h, gx, ok, s, en => by simp [okEs] at ok
  | [p], e, X, c, g, H, σ, env, h, gx, ok, s, en => by
    simp only [okEs, Bool.and_eq_true] at ok
    obtain ⟨⟨⟨o1, o2⟩, o3⟩, o4⟩ := ok
    have o2 : isPeek p = false := by simpa using o2
    have q := (okE_all p _ X c g H σ env h gx o1 s en).vl o2
    rw [evEs]
    refine SR.bind (w2 := fun v H1 Q => Q v H1) q (fun Q hq => hq) fun x h1 v H1 g1 _ s1 p1 r1 => ?_
    rw [evEs]
    exact fun Q hQ => hQ v H1 g1 s1 Pres.refl ⟨x, rfl, r1⟩
  | p :: p2 :: es, e, X, c, g, H, σ, env, h, gx, ok, s, en => by simp [okEs] at ok
theorem okAnd_all : ∀ (es : List Te) (ees : List Expr) (X : Cx) (c : Cd) (g : Gh) (H : Hp) (σ : Sg) (env : En) (h : Sh) (pos : Pos), GX X c pg tb G C n → okEs c tb false es ees = true → Sim pg.K g h H → EnR pg.K g H env σ →
    SR pg X σ g H (VlRel pg.K) (evAnd C G es env h) (wE X (.BoolOp .And ees pos) σ H) ∧ SR pg X σ g H QB (tru (evAnd C G es env h)) (wT X (.BoolOp .And ees pos) σ H)
  | [], ees, X, c, g, H, σ, env, h, pos, gx, ok, s, en => by
    rw [evAnd]
    exact ⟨trivial, trivial⟩
  | [p], ees, X, c, g, H, σ, env, h, pos, gx, ok, s, en => by
    cases ees with
    | nil => simp [okEs] at ok
    | cons e ees =>
      cases ees with
      | cons _ _ => simp [okEs] at ok
      | nil =>
        simp only [okEs, Bool.and_eq_true] at ok
        obtain ⟨⟨⟨o1, o2⟩, o3⟩, o4⟩ := ok
        have o2 : isPeek p = false := by simpa using o2
        have q := okE_all p _ X c g H σ env h gx o1 s en
        exact SAnd.one (q.vl o2) q.t
  | p :: p2 :: es, ees, X, c, g, H, σ, env, h, pos, gx, ok, s, en => by
    cases ees with
    | nil => simp [okEs] at ok
    | cons e ees =>
      cases ees with
      | nil => simp [okEs] at ok
      | cons e2 ees =>
        rw [okEs, Bool.and_eq_true, Bool.and_eq_true, Bool.and_eq_true] at ok
        obtain ⟨⟨⟨o1, o2⟩, o3⟩, o4⟩ := ok
        have o2 : isPeek p = false := by simpa using o2
        have q := okE_all p _ X c g H σ env h gx o1 s en
        exact SAnd.cons gx (q.vl o2) q.t fun h1 g1 H1 s1 p1 => okAnd_all (p2 :: es) _ X c g1 H1 σ env h1 pos gx o4 s1 (en.mono p1)
theorem okOr_all : ∀ (es : List Te) (ees : List Expr) (X : Cx) (c : Cd) (g : Gh) (H : Hp) (σ : Sg) (env : En) (h : Sh) (pos : Pos), GX X c pg tb G C n → okEs c tb false es ees = true → Sim pg.K g h H → EnR pg.K g H env σ →
    SR pg X σ g H (VlRel pg.K) (evOr C G es env h) (wE X (.BoolOp .Or ees pos) σ H) ∧ SR pg X σ g H QB (tru (evOr C G es env h)) (wT X (.BoolOp .Or ees pos) σ H)
  | [], ees, X, c, g, H, σ, env, h, pos, gx, ok, s, en => by
    rw [evOr]
    exact ⟨trivial, trivial⟩
  | [p], ees, X, c, g, H, σ, env, h, pos, gx, ok, s, en => by
    cases ees with
    | nil => simp [okEs] at ok
    | cons e ees =>
      cases ees with
      | cons _ _ => simp [okEs] at ok
      | nil =>
        simp only [okEs, Bool.and_eq_true] at ok
        obtain ⟨⟨⟨o1, o2⟩, o3⟩, o4⟩ := ok
        have o2 : isPeek p = false := by simpa using o2
        have q := okE_all p _ X c g H σ env h gx o1 s en
        exact SOr.one (q.vl o2) q.t
  | p :: p2 :: es, ees, X, c, g, H, σ, env, h, pos, gx, ok, s, en => by
    cases ees with
    | nil => simp [okEs] at ok
    | cons e ees =>
      cases ees with
      | nil => simp [okEs] at ok
      | cons e2 ees =>
        rw [okEs, Bool.and_eq_true, Bool.and_eq_true, Bool.and_eq_true] at ok
        obtain ⟨⟨⟨o1, o2⟩, o3⟩, o4⟩ := ok
        have o2 : isPeek p = false := by simpa using o2
        have q := okE_all p _ X c g H σ env h gx o1 s en
        exact SOr.cons gx (q.vl o2) q.t fun h1 g1 H1 s1 p1 => okOr_all (p2 :: es) _ X c g1 H1 σ env h1 pos gx o4 s1 (en.mono p1)
theorem okCs_all : ∀ (es : List Te) (ees : List Expr) (X : Cx) (c : Cd) (g : Gh) (H : Hp) (σ : Sg) (env : En) (h : Sh), GX X c pg tb G C n → okCs c tb es ees = true → Sim pg.K g h H → EnR pg.K g H env σ → SR pg X σ g H QB (evC C G es env h) (wCs X ees σ H)
  | [], ees, X, c, g, H, σ, env, h, gx, ok, s, en => by
    cases ees with
    | cons _ _ => simp [okCs] at ok
    | nil =>
      rw [evC]
      exact fun Q hQ pins s0 I => wpAny_tests_nil ⟨H, I, hQ true H g s Pres.refl rfl⟩
  | [p], ees, X, c, g, H, σ, env, h, gx, ok, s, en => by
    cases ees with
    | nil => simp [okCs] at ok
    | cons e ees =>
      cases ees with
      | cons _ _ => simp [okCs] at ok
      | nil =>
        simp only [okCs] at ok
        have q := (okE_all p _ X c g H σ env h gx ok s en).t
        have e1 : evC C G [p] env h = tru (evE C G p env h) := by
          rw [evC]
          unfold tru
          cases evE C G p env h with
          | no => rfl
          | ex _ _ => rfl
          | ok x h1 =>
            show (match truV x with | some true => evC C G [] env h1 | some false => .ok false h1 | none => .no) = (match truV x with | some b => R.ok b h1 | none => .no)
            cases truV x with
            | none => rfl
            | some k => cases k with
              | true => rw [evC]
              | false => rfl
        rw [e1]
        exact q.imp fun Q hq pins s0 I => wpAny_tests_one (hq pins s0 I)
  | p :: p2 :: es, ees, X, c, g, H, σ, env, h, gx, ok, s, en => by
    rcases ees with _ | ⟨e1, _ | ⟨e2, er⟩⟩ <;> simp [okCs] at ok
theorem okL_all : ∀ (l : Tl) (e : Expr) (X : Cx) (c : Cd) (g : Gh) (H : Hp) (σ : Sg) (env : En) (h : Sh), GX X c pg tb G C n → okL c tb l e = true → Sim pg.K g h H → EnR pg.K g H env σ → SR pg X σ g H (NwR pg.K H) (evL C G l env h) (wE X e σ H)
  | .disp es, e, X, c, g, H, σ, env, h, gx, ok, s, en => by
    unfold okL at ok
    split at ok
    all_goals first | (cases ok; done) | (rename_i hq; cases hq; done) | skip
    rename_i hq
    cases hq
    exact SL.disp (okEs_all es false _ X c g H σ env h gx ok s en)
  | .comp elt tg k es cs, e, X, c, g, H, σ, env, h, gx, ok, s, en => by
    unfold okL at ok
    split at ok
    all_goals first | (cases ok; done) | (rename_i hq; cases hq; done) | skip
    rename_i hq
    cases hq
    simp only [Bool.and_eq_true] at ok
    obtain ⟨⟨⟨⟨⟨⟨o1, o2⟩, o3⟩, o4⟩, o5⟩, o6⟩, o7⟩ := ok
    have ns := itB_noSet o4
    exact SL.comp gx o1 o2 (of_decide_eq_true o3) ns s en
      (SI.all gx o4 ⟨_, o2⟩ (fun ees oe => okEs_all es false ees X c g H σ env h gx oe s en) (fun e hp oe => okOne_all es e X c g H σ env h gx oe s en))
      (fun X' gx' env h σ g H s en => okCs_all cs _ X' _ g H σ env h gx' o5 s en)
      (fun X' gx' env h σ g H s en => (okE_all elt _ X' _ g H σ env h gx' o6 s en).vl (npk o7))
end
end
end Mi
/-! Mi: statements: states and ends. -/
namespace Mi
open PySem PySem.Spec PyProof.Rows L2

/-- from the def's entry at g0 H0, and from a later ghost gb -/
structure PZ (g0 : Gh) (H0 : Hp) (gb g : Gh) (H : Hp) : Prop where
  pre : Pres g0 H0 g H
  zm : ∀ a o, gb.Z a = some o → g.Z a = some o
theorem PZ.trans {g0 gb g g' : Gh} {H0 H H' : Hp} (p : PZ g0 H0 gb g H) (q : Pres g H g' H') : PZ g0 H0 gb g' H' := ⟨p.pre.trans q, fun a o e => q.z a o (p.zm a o e)⟩
theorem PZ.apart {g0 gb g : Gh} {H0 H : Hp} (p : PZ g0 H0 gb g H) {a : Addr} (n0 : H0 a = none) (o : HO) : PZ g0 H0 gb g (upd H a o) := ⟨p.pre.apart n0 o, p.zm⟩
theorem PZ.freezeNew {g0 gb g : Gh} {H0 H : Hp} {a : Addr} {vs : List V} (p : PZ g0 H0 gb g H) (z : g.Z a = none) (n0 : H0 a = none) : PZ g0 H0 gb ⟨upd g.Z a (.lst vs), g.ι⟩ H := ⟨p.pre.freezeNew z n0, fun b o e => by
  have q' := p.zm b o e
  show upd g.Z a (.lst vs) b = some o
  rw [upd_ne (fun y => by rw [y, z] at q'; cases q')]
  exact q'⟩
/-- a state within a def that was entered at g0 H0 -/
structure St (pg : Pg) (g0 : Gh) (H0 : Hp) (gb : Gh) (τ : Option Sg) (g : Gh) (H : Hp) (h : Sh) (env : En) (σ : Sg) : Prop where
  sim : Sim pg.K g h H
  pz : PZ g0 H0 gb g H
  en : EnR pg.K g H env σ
  fr : ∀ (i : Nat) xs a, env[i]? = some (.own xs) → σ[i]? = some (some (.ref a)) → H0 a = none
  ts : ∀ s, τ = some s → σ = s
structure PQ (g0 : Gh) (H0 : Hp) (gb : Gh) (τ : Option Sg) (g : Gh) (H : Hp) (σ : Sg) : Prop where
  pz : PZ g0 H0 gb g H
  ts : ∀ s, τ = some s → σ = s
theorem St.pt {pg : Pg} {g0 gb g : Gh} {τ : Option Sg} {H0 H : Hp} {h : Sh} {env : En} {σ : Sg} (st : St pg g0 H0 gb τ g H h env σ) : PQ g0 H0 gb τ g H σ := ⟨st.pz, st.ts⟩
theorem St.pre {pg : Pg} {g0 gb g : Gh} {τ : Option Sg} {H0 H : Hp} {h : Sh} {env : En} {σ : Sg} (st : St pg g0 H0 gb τ g H h env σ) : Pres g0 H0 g H := st.pz.pre
/-- own lists stand in the heap -/
def OwnIn (Hs : Hp) (env : En) (σ : Sg) : Prop := ∀ (i : Nat) xs a, env[i]? = some (.own xs) → σ[i]? = some (some (.ref a)) → Hs a ≠ none
theorem EnR.ownIn {K : PySem.W.Frag} {g : Gh} {H : Hp} {env : En} {σ : Sg} (r : EnR K g H env σ) : OwnIn H env σ := fun i xs a e e2 z => by
  obtain ⟨o, e3, b, vs, rfl, hH, _⟩ := r.at_ i _ e
  rw [e2] at e3
  cases e3
  rw [z] at hH
  cases hH

def SO (pg : Pg) (X : Cx) (g0 : Gh) (H0 : Hp) (gb : Gh) (τ : Option Sg) (r : R Out) (w : Ends → Prop) : Prop :=
  match r with
  | .ok (.nx env') h' => ∀ D : Ends, (∀ σ' H' g', St pg g0 H0 gb τ g' H' h' env' σ' → D.nx σ' H') → w D
  | .ok (.bk env') h' => ∀ D : Ends, (∀ σ' H' g', St pg g0 H0 gb τ g' H' h' env' σ' → D.bk σ' H') → w D
  | .ok (.ct env') h' => ∀ D : Ends, (∀ σ' H' g', St pg g0 H0 gb τ g' H' h' env' σ' → D.ct σ' H') → w D
  | .ok (.rt x) h' => ∀ D : Ends, (∀ v H' g', Sim pg.K g' h' H' → PZ g0 H0 gb g' H' → VlR pg.K g' x v → D.rt v H') → w D
  | .ex e h' => ∀ W : WX, Takes X W → (∀ cls dx σ' H' g', Sim pg.K g' h' H' → PQ g0 H0 gb τ g' H' σ' → ErR pg e cls dx H' g' → W cls dx σ' H') → ∀ D, w D
  | .no => True

section
variable {pg : Pg} {X : Cx} {g g0 gb : Gh} {τ : Option Sg} {H H0 : Hp} {α β : Type} {h : Sh} {env : En} {σ : Sg}
theorem SO.imp {r : R Out} {w w' : Ends → Prop} (q : SO pg X g0 H0 gb τ r w) (c : ∀ D, w D → w' D) : SO pg X g0 H0 gb τ r w' := by
  cases r with
  | no => exact trivial
  | ex e h' => exact fun W tk hW D => c D (q W tk hW D)
  | ok o h' => cases o <;> exact fun D hD => c D (q D hD)
theorem SO.bindE {Rl : Gh → Hp → α → β → Prop} {r : R α} {f : α → Sh → R Out} {w : (β → Hp → Prop) → Prop} {w2 : β → Hp → Ends → Prop} {w3 : Ends → Prop} (q : SR pg X σ g H Rl r w) (p0 : PQ g0 H0 gb τ g H σ)
    (comb : ∀ D, w (fun b H' => w2 b H' D) → w3 D)
    (k : ∀ a h' b H' g', r = .ok a h' → Sim pg.K g' h' H' → Pres g H g' H' → Rl g' H' a b → SO pg X g0 H0 gb τ (f a h') (w2 b H')) : SO pg X g0 H0 gb τ (r.bind f) w3 := by
  cases r with
  | no => exact trivial
  | ex e h' => exact fun W tk hW D => comb D (q W tk (fun cls dx H' g' s p e => hW cls dx σ H' g' s ⟨p0.pz.trans p, p0.ts⟩ e) _)
  | ok a h' =>
    show SO pg X g0 H0 gb τ (f a h') w3
    have k' := k a h'
    cases hf : f a h' with
    | no => exact trivial
    | ex e h2 =>
      refine fun W tk hW D => comb D (q _ fun b H' g' s p r => ?_)
      have := k' b H' g' rfl s p r
      rw [hf] at this
      exact this W tk hW D
    | ok o h2 =>
      cases o <;>
      · refine fun D hD => comb D (q _ fun b H' g' s p r => ?_)
        have := k' b H' g' rfl s p r
        rw [hf] at this
        exact this D hD
theorem SO.nx {env' : En} {h' : Sh} {w : Ends → Prop} (st : St pg g0 H0 gb τ g H h' env' σ) (c : ∀ D : Ends, D.nx σ H → w D) : SO pg X g0 H0 gb τ (.ok (.nx env') h') w := fun D hD => c D (hD σ H g st)
theorem SO.cons {r : R Out} {f : En → Sh → R Out} {st : Stmt} {rest : List Stmt} (q : SO pg X g0 H0 gb τ r fun D => wS X st D σ H)
    (k : ∀ env' h' σ' H' g', r = .ok (.nx env') h' → St pg g0 H0 gb τ g' H' h' env' σ' → SO pg X g0 H0 gb τ (f env' h') fun D => wSs X rest D σ' H') :
    SO pg X g0 H0 gb τ (r.bind fun o h1 => match o with | .nx e => f e h1 | o => .ok o h1) fun D => wSs X (st :: rest) D σ H := by
  have comb : ∀ D, wS X st { D with nx := fun σ' H' => wSs X rest D σ' H' } σ H → wSs X (st :: rest) D σ H := fun D hq => wSs_of (pss_cons ps_w pss_w) hq
  cases r with
  | no => exact trivial
  | ex e h' => exact fun W tk hW D => comb D (q W tk hW _)
  | ok o h' =>
    cases o with
    | nx env' =>
      show SO pg X g0 H0 gb τ (f env' h') _
      have k' := k env' h'
      cases hf : f env' h' with
      | no => exact trivial
      | ex e h2 =>
        refine fun W tk hW D => comb D (q _ fun σ' H' g' st => ?_)
        have := k' σ' H' g' rfl st
        rw [hf] at this
        exact this W tk hW D
      | ok o h2 =>
        cases o <;>
        · refine fun D hD => comb D (q _ fun σ' H' g' st => ?_)
          have := k' σ' H' g' rfl st
          rw [hf] at this
          exact this D hD
    | bk env' => exact fun D hD => comb D (q _ hD)
    | ct env' => exact fun D hD => comb D (q _ hD)
    | rt v => exact fun D hD => comb D (q _ hD)

/-! ### states that change -/
theorem St.later {g' : Gh} {H' : Hp} {h' : Sh} (st : St pg g0 H0 gb τ g H h env σ) (s : Sim pg.K g' h' H') (p : Pres g H g' H') : St pg g0 H0 gb τ g' H' h' env σ := ⟨s, st.pz.trans p, st.en.mono p, st.fr, st.ts⟩
/-- the later ghost anew -/
theorem St.rebase (st : St pg g0 H0 gb τ g H h env σ) : St pg g0 H0 g τ g H h env σ := ⟨st.sim, ⟨st.pre, fun _ _ e => e⟩, st.en, st.fr, st.ts⟩
theorem St.earlier {g1 : Gh} (st : St pg g0 H0 g1 τ g H h env σ) (m : ∀ a o, gb.Z a = some o → g1.Z a = some o) : St pg g0 H0 gb τ g H h env σ := ⟨st.sim, ⟨st.pre, fun a o e => st.pz.zm a o (m a o e)⟩, st.en, st.fr, st.ts⟩
theorem set_self {α : Type} {l : List α} {i : Nat} {x y : α} (e : (l.set i x)[i]? = some y) : y = x := by
  have hl : i < l.length := by
    have := (List.getElem?_eq_some_iff.mp e).1
    rw [List.length_set] at this
    exact this
  rw [List.getElem?_set_self hl] at e
  cases e; rfl
theorem EnR.setOwn {K : PySem.W.Frag} {Hs : Hp} {xs : List PyData} {a : Addr} {vs : List V} (r : EnR K g H env σ) (ow : OwnIn Hs env σ) {i : Nat} (e : H a = some (.lst vs)) (z : g.Z a = none) (ni : a ∉ g.ι) (rl : RpL K g.Z xs vs) (n0 : Hs a = none) :
    EnR K g H (env.set i (.own xs)) (σ.set i (some (.ref a))) := by
  refine ⟨by rw [List.length_set, List.length_set]; exact r.len, fun j s e1 => ?_, fun j k ys zs b e1 e2 e3 e4 => ?_⟩
  · by_cases hj : j = i
    · subst hj
      have hl : j < env.length := by
        have := (List.getElem?_eq_some_iff.mp e1).1
        rw [List.length_set] at this
        exact this
      cases set_self e1
      exact ⟨some (.ref a), by rw [List.getElem?_set_self (by rw [← r.len]; exact hl)], a, vs, rfl, e, z, ni, rl⟩
    · rw [List.getElem?_set_ne (Ne.symm hj)] at e1
      obtain ⟨o, q1, q2⟩ := r.at_ j s e1
      exact ⟨o, by rw [List.getElem?_set_ne (Ne.symm hj)]; exact q1, q2⟩
  · by_cases hj : j = i
    · by_cases hk : k = i
      · rw [hj, hk]
      · subst hj
        rw [List.getElem?_set_ne (Ne.symm hk)] at e2 e4
        have := set_self e3
        cases this
        exact (ow k _ _ e2 e4 n0).elim
    · by_cases hk : k = i
      · subst hk
        rw [List.getElem?_set_ne (Ne.symm hj)] at e1 e3
        have := set_self e4
        cases this
        exact (ow j _ _ e1 e3 n0).elim
      · rw [List.getElem?_set_ne (Ne.symm hj)] at e1 e3
        rw [List.getElem?_set_ne (Ne.symm hk)] at e2 e4
        exact r.dist j k _ _ b e1 e2 e3 e4
/-- a place that was free is still free of the def's entry -/
theorem fresh0 {a : Addr} (p : Pres g0 H0 g H) (n : H a = none) (ni : a ∉ g.ι) : H0 a = none := by
  cases e : H0 a with
  | none => rfl
  | some u =>
    by_cases m : a ∈ g0.ι
    · obtain ⟨t, et⟩ := p.i
      exact (ni (by rw [et]; exact List.mem_append_left _ m)).elim
    · have := (p.k a u e m).1
      rw [n] at this; cases this
theorem St.setOwn (hτ : τ = none) {g' : Gh} {H' : Hp} {h' : Sh} {xs : List PyData} {v : V} (st : St pg g0 H0 gb τ g H h env σ) (s : Sim pg.K g' h' H') (p : Pres g H g' H') (r : NwR pg.K H g' H' xs v) (i : Nat) : St pg g0 H0 gb τ g' H' h' (env.set i (.own xs)) (σ.set i (some v)) := by
  obtain ⟨a, vs, rfl, hH, z, ni, rl, n0⟩ := r
  have ni0 : a ∉ g.ι := fun m => by
    obtain ⟨t, et⟩ := p.i
    exact ni (by rw [et]; exact List.mem_append_left _ m)
  refine ⟨s, st.pz.trans p, (st.en.mono p).setOwn st.en.ownIn hH z ni rl n0, fun j ys b e1 e2 => ?_, fun s e => by rw [hτ] at e; cases e⟩
  by_cases hj : j = i
  · subst hj
    have := set_self e2
    cases this
    exact fresh0 st.pre n0 ni0
  · rw [List.getElem?_set_ne (Ne.symm hj)] at e1 e2
    exact st.fr j ys b e1 e2
theorem St.set (hτ : τ = none) (st : St pg g0 H0 gb τ g H h env σ) {x : Vl} {v : V} (r : VlR pg.K g x v) (i : Nat) : St pg g0 H0 gb τ g H h (env.set i (.v x)) (σ.set i (some v)) := by
  refine ⟨st.sim, st.pz, st.en.set r, fun j ys b e1 e2 => ?_, fun s e => by rw [hτ] at e; cases e⟩
  by_cases hj : j = i
  · subst hj
    have := set_self e1
    cases this
  · rw [List.getElem?_set_ne (Ne.symm hj)] at e1 e2
    exact st.fr j ys b e1 e2
/-- the frame's own list is changed -/
theorem St.chg (st : St pg g0 H0 gb τ g H h env σ) {i : Nat} {xs ys : List PyData} {a : Addr} {ws : List V} (e : env[i]? = some (.own xs)) (e2 : σ[i]? = some (some (.ref a))) (r : RpL pg.K g.Z ys ws) : St pg g0 H0 gb τ g (upd H a (.lst ws)) h (env.set i (.own ys)) σ := by
  obtain ⟨o, e3, b, vs, rfl, hH, z, ni, rl⟩ := st.en.at_ i _ e
  rw [e2] at e3
  cases e3
  have hi : i < env.length := (List.getElem?_eq_some_iff.mp e).1
  refine ⟨st.sim.apart z ni _, st.pz.apart (st.fr i xs a e e2) _, ⟨by rw [List.length_set]; exact st.en.len, fun j s e1 => ?_, fun j k us zs b e1 e2' e3 e4 => ?_⟩, fun j us b e1 e3 => ?_, st.ts⟩
  · by_cases hj : j = i
    · subst hj
      have := set_self e1
      subst this
      exact ⟨_, e2, a, ws, rfl, upd_same, z, ni, r⟩
    · rw [List.getElem?_set_ne (Ne.symm hj)] at e1
      obtain ⟨o, q1, q2⟩ := st.en.at_ j s e1
      refine ⟨o, q1, ?_⟩
      cases s with
      | no => trivial
      | v x => exact q2
      | own us =>
        obtain ⟨b, vs2, rfl, hb, zb, nb, rb⟩ := q2
        have hne : b ≠ a := fun y => by
          subst y
          exact hj (st.en.dist j i _ _ b e1 e q1 e2)
        exact ⟨b, vs2, rfl, by rw [upd_ne hne]; exact hb, zb, nb, rb⟩
  · have key : ∀ {j : Nat} {us : List PyData}, (env.set i (.own ys))[j]? = some (.own us) → ∃ us', env[j]? = some (.own us') := fun {j us} e1 => by
      by_cases hj : j = i
      · subst hj; exact ⟨xs, e⟩
      · rw [List.getElem?_set_ne (Ne.symm hj)] at e1; exact ⟨us, e1⟩
    obtain ⟨_, f1⟩ := key e1
    obtain ⟨_, f2⟩ := key e2'
    exact st.en.dist j k _ _ b f1 f2 e3 e4
  · by_cases hj : j = i
    · subst hj; exact st.fr j xs b e e3
    · rw [List.getElem?_set_ne (Ne.symm hj)] at e1
      exact st.fr j us b e1 e3
/-- .. it never changes again -/
theorem St.freeze (st : St pg g0 H0 gb τ g H h env σ) {i : Nat} {xs : List PyData} (e : env[i]? = some (.own xs)) : ∃ g', St pg g0 H0 gb τ g' H h (env.set i (.v (.d (.list xs)))) σ := by
  obtain ⟨o, e2, a, vs, rfl, hH, z, ni, rl⟩ := st.en.at_ i _ e
  obtain ⟨s2, zm⟩ := st.sim.freeze hH z ni
  have hi : i < env.length := (List.getElem?_eq_some_iff.mp e).1
  have own : ∀ {j : Nat} {us : List PyData}, (env.set i (.v (.d (.list xs))))[j]? = some (.own us) → j ≠ i ∧ env[j]? = some (.own us) := fun {j us} e1 => by
    by_cases hj : j = i
    · subst hj
      cases set_self e1
    · rw [List.getElem?_set_ne (Ne.symm hj)] at e1
      exact ⟨hj, e1⟩
  refine ⟨⟨upd g.Z a (.lst vs), g.ι⟩, s2, st.pz.freezeNew z (st.fr i xs a e e2), ⟨by rw [List.length_set]; exact st.en.len, fun j s e1 => ?_, fun j k us zs b e1 e2' e3 e4 => ?_⟩, fun j us b e1 e3 => ?_, st.ts⟩
  · by_cases hj : j = i
    · subst hj
      have := set_self e1
      subst this
      refine ⟨_, e2, _, rfl, ?_⟩
      simp only [VlR, Rp]
      exact ⟨a, vs, rfl, by show upd g.Z a _ a = _; rw [upd_same], RpL.mono zm xs vs rl⟩
    · rw [List.getElem?_set_ne (Ne.symm hj)] at e1
      obtain ⟨o, q1, q2⟩ := st.en.at_ j s e1
      refine ⟨o, q1, ?_⟩
      cases s with
      | no => trivial
      | v x =>
        obtain ⟨v, rfl, rv⟩ := q2
        refine ⟨v, rfl, ?_⟩
        cases x with
        | d x => exact Rp.mono zm x v rv
        | ref n => exact rv
        | fn n => exact rv
        | scr ns =>
          obtain ⟨b, e5, q5⟩ := rv
          exact ⟨b, e5, sqL_mono zm q5⟩
      | own us =>
        obtain ⟨b, vs2, rfl, hb, zb, nb, rb⟩ := q2
        have hne : b ≠ a := fun y => by
          subst y
          exact hj (st.en.dist j i _ _ b e1 e q1 e2)
        exact ⟨b, vs2, rfl, hb, by show upd g.Z a _ b = none; rw [upd_ne hne]; exact zb, nb, RpL.mono zm us vs2 rb⟩
  · obtain ⟨h1, f1⟩ := own e1
    obtain ⟨h2, f2⟩ := own e2'
    exact st.en.dist j k _ _ b f1 f2 e3 e4
  · obtain ⟨h1, f1⟩ := own e1
    exact st.fr j us b f1 e3
theorem wipe_ne {σ : Sg} {i : Nat} : ∀ {ws : List Nat}, i ∉ ws → (L2.wipe σ ws)[i]? = σ[i]?
  | [], _ => rfl
  | w :: ws, hn => by
    have hw : w ≠ i := fun e => hn (by rw [e]; exact List.mem_cons_self)
    show ((L2.wipe σ ws).set w none)[i]? = _
    rw [List.getElem?_set_ne hw]
    exact wipe_ne fun m => hn (List.mem_cons_of_mem _ m)
theorem bindIs_own : ∀ {is : List Nat} {xs : List PyData} {env env' : En} {i : Nat} {ys : List PyData}, bindIs is xs env = some env' → env'[i]? = some (.own ys) → i ∉ is ∧ env[i]? = some (.own ys)
  | [], [], env, env', i, ys, e, e1 => by
    simp only [bindIs, Option.some.injEq] at e
    subst e
    exact ⟨List.not_mem_nil, e1⟩
  | j :: is, x :: xs, env, env', i, ys, e, e1 => by
    obtain ⟨n1, e2⟩ := bindIs_own (is := is) e e1
    have hj : i ≠ j := fun z => by
      subst z
      cases set_self e2
    rw [List.getElem?_set_ne (Ne.symm hj)] at e2
    exact ⟨fun m => (List.mem_cons.mp m).elim hj n1, e2⟩
  | [], _ :: _, _, _, _, _, e, _ => by simp [bindIs] at e
  | _ :: _, [], _, _, _, _, e, _ => by simp [bindIs] at e
theorem bindTg_own {tg : Tg} {x : Vl} {env env' : En} {i : Nat} {ys : List PyData} (hs : (∃ is r, tg = .st is r) → False) (e : bindTg tg x env = some env') (e1 : env'[i]? = some (.own ys)) : i ∉ tg.names ∧ env[i]? = some (.own ys) := by
  unfold bindTg at e
  split at e
  · cases e
    rename_i j
    have hj : i ≠ j := fun z => by
      subst z
      cases set_self e1
    rw [List.getElem?_set_ne (Ne.symm hj)] at e1
    exact ⟨fun m => hj (by simpa [Tg.names] using m), e1⟩
  · exact bindIs_own e e1
  · exact bindIs_own e e1
  · exact (hs ⟨_, _, rfl⟩).elim
  · cases e
theorem St.bind (hτ : τ = none) {tg : Tg} {x : Vl} {v : V} {env' : En} {Q : Sg → Hp → Prop} (hs : (∃ is r, tg = .st is r) → False) (st : St pg g0 H0 gb τ g H h env σ) (e : bindTg tg x env = some env') (r : VlR pg.K g x v)
    (q : ∀ σ', St pg g0 H0 gb τ g H h env' σ' → Q σ' H) : gOf pg.K tg v σ H Q :=
  tg_ok hs e st.sim r st.en fun σ' en' wp => q σ' ⟨st.sim, st.pz, en', fun i ys a e1 e2 => by
    obtain ⟨n1, e3⟩ := bindTg_own hs e e1
    refine st.fr i ys a e3 ?_
    have := congrArg (fun l => l[i]?) (wp tg.names fun _ m => m)
    rw [wipe_ne n1, wipe_ne n1] at this
    rw [← this]
    exact e2, fun s e => by rw [hτ] at e; cases e⟩
end
end Mi
/-! Mi: statements: the text beside the terms; the small statements. -/
namespace Mi
open PySem PySem.Spec PyProof.Rows L2

def noComp : Expr → Bool
  | .ListComp .. => false
  | .SetComp .. => false
  | .DictComp .. => false
  | _ => true
def asgB (tg e : Expr) : Bool := noComp e && (match tg, e with
  | .Tuple .., .Tuple vs _ _ => vs.all (foldedForSure 8)
  | _, _ => true)
/-- name = [.. for ..]: on one line (true), on several (false) -/
def swK (c : Cd) (x : Str) (p : Pos) : Expr → Option Bool
  | .ListComp elt gens scope pos =>
    if decide (c.sc.names.lookup x = some .local) && (p.line == pos.line) && !(scope.names.any fun (n, k) => n == x && (k == .local || k == .cell)) then some true
    else if p.line == pos.line then none else some false
  | _ => none
def swB (c : Cd) (x : Str) (p : Pos) (e : Expr) : Bool := noComp e || (swK c x p e).isSome
def nmLoc (c : Cd) (l : Nat) : Nat → Expr → Bool
  | i, .Name x p => decide (c.N[i]? = some x) && decide (c.sc.names.lookup x = some .local) && (p.line == l)
  | _, _ => false
def headLine : List Expr → Nat
  | e :: _ => e.pos.line
  | [] => 0
def nmLocs (c : Cd) (l : Nat) : List Nat → List Expr → Bool
  | [], [] => true
  | i :: is, e :: es => nmLoc c l i e && nmLocs c l is es
  | _, _ => false
def parB (c : Cd) (is : List Nat) (ts vs : List Expr) : Bool :=
  (is.length == 2 || is.length == 3) && (vs.length == is.length) && decide is.Nodup && nmLocs c (headLine ts) is ts && noStars vs && !(vs.all (foldedForSure 8)) && !(vs.all (constantsAlone 8))
def okX (c : Cd) (tb : Tb) : Tm → Expr → Bool
  | .e p, e => okE c tb p e && !isPeek p
  | .l l, e => okL c tb l e
def okXs (c : Cd) (tb : Tb) : List Tm → List Expr → Bool
  | [], [] => true
  | t :: ts, e :: es => okX c tb t e && noStar e && okXs c tb ts es
  | _, _ => false
def okHt (c : Cd) (tb : Tb) (i : Nat) : Ht → Expr → Bool
  | .isx k cls, .Call (.Name x _) [.Name y _, .Name z _] [] _ => decide (x = ("isinstance" : Str)) && glB c x && decide (c.N[i]? = some y) && visB c.sc y && plainName y && glB c z && decide (tb.cs k = some z) && decide (cls = (List.range tb.nc).filter fun j => tb.sub j k)
  | .and a b, .BoolOp .And [a', b'] _ => okHt c tb i a a' && okHt c tb i b b'
  | .or a b, .BoolOp .Or [a', b'] _ => okHt c tb i a a' && okHt c tb i b b'
  | .not a, .UnaryOp .Not a' _ => okHt c tb i a a'
  | _, _ => false
def okH (c : Cd) (tb : Tb) (i : Nat) : He → Expr → Bool
  | .cst d, .Constant k _ _ => cstB d k
  | .ite t a b, .IfExp t' a' b' _ => okHt c tb i t t' && okH c tb i a a' && okH c tb i b b'
  | _, _ => false
mutual
/-- nothing is stored -/
def noAsg : Ts → Bool
  | .ret _ => true
  | .retN => true
  | .expr _ => true
  | .doc => true
  | .pass => true
  | .raise _ => true
  | .iff _ a b => noAsgs a && noAsgs b
  | _ => false
def noAsgs : List Ts → Bool
  | [] => true
  | s :: ss => noAsg s && noAsgs ss
end
mutual
def okT (c : Cd) (tb : Tb) : Ts → Stmt → Bool
  | .doc, .Expr (.Constant (.str _) _ _) _ => true
  | .asg (.st [i] r) e, .Assign [.Tuple [.Name x _, .Starred (.Name y _) _] _ _] (.Name z p) _ => stB c i x && stB c r y && okE c tb e (.Name z p) && !isPeek e
  | .asg tg e, .Assign [tg'] e' _ => tgB c tg tg' && okE c tb e e' && !isPeek e && asgB tg' e'
  | .own i l, .Assign [.Name x p] e' _ => stB c i x && okL c tb l e' && swB c x p e'
  | .par is ts, .Assign [.Tuple ts' _ _] (.Tuple vs' _ _) _ => parB c is ts' vs' && okXs c tb ts vs'
  | .aug i op e, .AugAssign (.Name x _) op' e' _ => stB c i x && decide (op = op') && (decide (op = .Add) || decide (op = .Sub)) && okE c tb e e' && !isPeek e
  | .setix r i e, .Assign [.Subscript r' i' _] e' _ => okE c tb r r' && okE c tb i i' && okE c tb e e' && noSlice i' && noComp e' && !isPeek r && !isPeek i && !isPeek e
  | .ownix s i e, .Assign [.Subscript (.Name x _) i' _] e' _ => nmB c s x && okE c tb i i' && okE c tb e e' && noSlice i' && noComp e' && !isPeek i && !isPeek e
  | .app s e, .Expr (.Call (.Attribute (.Name x _) nm ap) [e'] [] cp) _ => decide (nm = ("append" : Str)) && nmB c s x && okE c tb e e' && !isPeek e && noStar e' && (ap.endLine == cp.line)
  | .ext s e, .Expr (.Call (.Attribute (.Name x _) nm ap) [e'] [] cp) _ => decide (nm = ("extend" : Str)) && nmB c s x && okE c tb e e' && noStar e' && (ap.endLine == cp.line)
  | .expr e, .Expr e' _ => okE c tb e e' && noComp e'
  | .ret e, .Return (some e') _ => okE c tb e e' && !isPeek e
  | .retN, .Return none _ => true
  | .iff t a b, .If t' a' b' _ => okE c tb t t' && okTs c tb a a' && okTs c tb b b'
  | .for tg k es body, .For tg' it' body' [] _ => tgB c tg tg' && itB c (okEs c tb false es) tg k it' && okTs c tb body body'
  | .while t body, .While t' body' [] _ => okE c tb t t' && okTs c tb body body'
  | .raise k, .Raise (some (.Call (.Name x _) [.Constant (.str _) _ _] [] _)) none _ => glB c x && decide (tb.cs k = some x)
  | .tryE body k cls i hd, .Try body' [.ExceptHandler (some (.Name x _)) (some n) [.Return (some e') _] _] [] [] _ => okTs c tb body body' && noAsgs body && glB c x && decide (tb.cs k = some x) && decide (cls = (List.range tb.nc).filter fun j => tb.sub j k) &&
      decide (c.N[i]? = some n) && decide (c.sc.names.lookup n = some .local) && okH c tb i hd e'
  | .brk, .Break _ => true
  | .cont, .Continue _ => true
  | .pass, .Pass _ => true
  | _, _ => false
def okTs (c : Cd) (tb : Tb) : List Ts → List Stmt → Bool
  | [], [] => true
  | .freeze _ :: ss, sts => okTs c tb ss sts
  | s :: ss, st :: sts => okT c tb s st && okTs c tb ss sts
  | _, _ => false
end

section
variable {pg : Pg} {tb : Tb} {G : Nat → Option PyData} {C : Cf} {n : Nat} {X : Cx} {c : Cd} {g g0 gb : Gh} {τ : Option Sg} {H H0 : Hp} {σ : Sg} {h : Sh} {env : En} {W : Nat}

theorem sw_false {e : Expr} {t : Option Expr} {l : Nat} {env : Env} (hc : noComp e = true) : swapsWith e t l env = pure false := by
  cases e <;> first | rfl | cases hc
theorem GX.bk (gx : GX X c pg tb G C n) : X.env.blockKind = .function := by
  unfold Env.blockKind
  rw [gx.sc, gx.kd]
  rfl
theorem sw_lines {elt : Expr} {gs : List Comprehension} {scope : Scope} {pos py : Pos} {y : Str} {l : Nat} {env : Env} (hl : (py.line == pos.line) = false) : swapsWith (.ListComp elt gs scope pos) (some (.Name y py)) l env = pure false := by
  unfold swapsWith
  simp only [Expr.pos, hl, Bool.and_false, Bool.false_and]

theorem SO.doc {x : Str} {j : Nat} {p pos : Pos} (st : St pg g0 H0 gb τ g H h env σ) : SO pg X g0 H0 gb τ (evS C G W .doc env h) (fun D => wS X (.Expr (.Constant (.str x) j p) pos) D σ H) := by
  rw [evS]
  exact SO.nx st fun D hd => wS_of ps_doc hd
theorem SO.asg (hτ : τ = none) {tg : Tg} {e : Te} {tg' e' : Expr} {pos : Pos} (gx : GX X c pg tb G C n) (st : St pg g0 H0 gb τ g H h env σ) (ot : tgB c tg tg' = true) (oe : okE c tb e e' = true) (np : isPeek e = false) (oa : asgB tg' e' = true) :
    SO pg X g0 H0 gb τ (evS C G W (.asg tg e) env h) (fun D => wS X (.Assign [tg'] e' pos) D σ H) := by
  rw [evS]
  have nst : (∃ is r, tg = .st is r) → False := fun ⟨is, r, e⟩ => by subst e; cases tg' <;> cases ot
  unfold asgB at oa
  rw [Bool.and_eq_true] at oa
  obtain ⟨nc, oa⟩ := oa
  have hs : swapsWithSole [tg'] e' pos.line X.env = pure false := sw_false nc
  have hw : swappedStores [tg'] e' X.env = pure none := by
    cases tg <;> cases tg' <;> simp only [tgB] at ot <;> try cases ot
    · rfl
    · rename_i ts k p _
      cases e' <;> first | rfl | skip
      rename_i vs k2 p2
      have oa : vs.all (foldedForSure 8) = true := oa
      unfold swappedStores
      simp only [oa]
      split
      · rfl
      · split
        · rfl
        · split
          · rfl
          · rfl
  have h1 : (assignEach [tg'] X.env).map (·.2) = [assign tg' X.env] := by
    cases tg <;> cases tg' <;> simp only [tgB] at ot <;> first | rfl | cases ot
  refine SO.bindE (w2 := fun v H1 D => gOf pg.K tg v σ H1 D.nx) ((okE_all e _ X c g H σ env h gx oe st.sim st.en).vl np) st.pt (fun D hq => wS_of (ps_asg pe_w (pg_of gx ot) hs hw h1) hq) fun x h1 v H1 g1 _ s1 p1 r1 => ?_
  cases eb : bindTg tg x env with
  | none => exact trivial
  | some env' => exact fun D hD => (st.later s1 p1).bind hτ nst eb r1 fun σ' st' => hD σ' H1 g1 st'
theorem okLT {elt : Te} {tg : Tg} {k : Mi.It} {es cs : List Te} {elt' tg' it' : Expr} {ifs' : List Expr} {scope : Scope} {pos py spos : Pos} {i : Nat} {x : Str} (gx : GX X c pg tb G C n) (ok : okL c tb (.comp elt tg k es cs) (.ListComp elt' [⟨tg', it', ifs', 0⟩] scope pos) = true) (s : Sim pg.K g h H) (en : EnR pg.K g H env σ)
    (ost : stB c i x = true) (c1 : c.sc.names.lookup x = some .local) (c2 : (py.line == pos.line) = true) (c3 : (scope.names.any fun (n, k) => n == x && (k == .local || k == .cell)) = false) :
    ∃ te : TE, PS X (.Assign [.Name x py] (.ListComp elt' [⟨tg', it', ifs', 0⟩] scope pos) spos) (tAsg te (gName i)) ∧ SR pg X σ g H (NwR pg.K H) (evL C G (.comp elt tg k es cs) env h) (te σ H) := by
  simp only [okL, Bool.and_eq_true] at ok
  obtain ⟨⟨⟨⟨⟨⟨o1, o2⟩, o3⟩, o4⟩, o5⟩, o6⟩, o7⟩ := ok
  have ns := itB_noSet o4
  have q := SL.compT (pos := pos) gx o1 o2 (of_decide_eq_true o3) ns s en
      (SI.all gx o4 ⟨_, o2⟩ (fun ees oe => okEs_all es false ees X c g H σ env h gx oe s en) (fun e hp oe => okOne_all es e X c g H σ env h gx oe s en))
      (fun X' gx' env h σ g H s en => okCs_all cs _ X' _ g H σ env h gx' o5 s en)
      (fun X' gx' env h σ g H s en => (okE_all elt _ X' _ g H σ env h gx' o6 s en).vl (npk o7))
  have blk := blkOk_by o1
  obtain ⟨t1, t2, t3⟩ := stB_of gx ost
  have hyl : X.env.scope.names.lookup x = some .local := by rw [gx.sc]; exact c1
  have rule := ps_setLc (X := X) (i := i) (py := py) (spos := spos) (pos := pos) (elt := elt') (tg := tg') (iter := it') (ifs := ifs') (g := gOf pg.K tg)
    (tt := fun σ H Q => ∀ s0 H0 C0 cl fp, wCs (X.blk s0 H0 scope (compEnvC scope cl C0 X.env) fp) ifs' σ H Q) (te := fun σ H Q => ∀ s0 H0 C0 cl fp, wE (X.blk s0 H0 scope (compEnvC scope cl C0 X.env) fp) elt' σ H Q)
    gx.calm (by rw [gx.N]; exact gx.nd) t1 hyl (sw_true (by rw [gx.sc]; exact gx.kd) hyl c2 c3) pi_w (by rw [gx.N, gx.sc]; exact blk) (fun s0 H0 C0 cl fp => pg_of (gx.blk blk.kind s0 H0 C0 cl fp) o2) (fun s0 H0 C0 cl fp => ⟨fun pins s σ H Q I q => q s0 H0 C0 cl fp pins s I⟩)
    (fun s0 H0 C0 cl fp => ⟨fun pins s σ H Q I q => q s0 H0 C0 cl fp pins s I⟩) (folded_of ns)
  rw [of_decide_eq_true o3] at rule
  exact ⟨_, rule, q⟩
theorem okL_gens {elt : Te} {tg : Tg} {k : Mi.It} {es cs : List Te} {elt' : Expr} {gens : List Comprehension} {scope : Scope} {pos : Pos} (ok : okL c tb (.comp elt tg k es cs) (.ListComp elt' gens scope pos) = true) : ∃ tg' it' ifs', gens = [⟨tg', it', ifs', 0⟩] := by
  unfold okL at ok
  split at ok
  all_goals first | (cases ok; done) | (rename_i hq; cases hq; done) | skip
  · rename_i hq1 hq2
    cases hq2
    exact ⟨_, _, _, rfl⟩
theorem ownRule {l : Tl} {e' : Expr} {py spos : Pos} {i : Nat} {x : Str} (gx : GX X c pg tb G C n) (ok : okL c tb l e' = true) (s : Sim pg.K g h H) (en : EnR pg.K g H env σ) (ost : stB c i x = true) (osw : swB c x py e' = true) :
    ∃ te : TE, PS X (.Assign [.Name x py] e' spos) (tAsg te (gName i)) ∧ SR pg X σ g H (NwR pg.K H) (evL C G l env h) (te σ H) := by
  obtain ⟨t1, t2, t3⟩ := stB_of gx ost
  have plain : swapsWith e' (some (.Name x py)) spos.line X.env = pure false → ∃ te : TE, PS X (.Assign [.Name x py] e' spos) (tAsg te (gName i)) ∧ SR pg X σ g H (NwR pg.K H) (evL C G l env h) (te σ H) := fun hs =>
    ⟨_, ps_set (by rw [gx.N]; exact gx.nd) t1 t2 pe_w hs t3, okL_all l e' X c g H σ env h gx ok s en⟩
  unfold swB at osw
  rw [Bool.or_eq_true] at osw
  rcases osw with nc | hk
  · exact plain (sw_false nc)
  · unfold swK at hk
    split at hk
    · split at hk
      · rename_i cond
        rw [Bool.and_eq_true, Bool.and_eq_true] at cond
        obtain ⟨⟨c1, c2⟩, c3⟩ := cond
        cases l with
        | disp es => cases ok
        | comp elt tg k es cs =>
          obtain ⟨tg', it', ifs', rfl⟩ := okL_gens ok
          exact okLT gx ok s en ost (of_decide_eq_true c1) c2 (by simpa using c3)
      · split at hk
        · cases hk
        · rename_i hl
          exact plain (sw_lines (by simpa using hl))
    · cases hk
theorem SO.own (hτ : τ = none) {l : Tl} {e' : Expr} {py pos : Pos} {i : Nat} {x : Str} (gx : GX X c pg tb G C n) (st : St pg g0 H0 gb τ g H h env σ) (ost : stB c i x = true) (ok : okL c tb l e' = true) (osw : swB c x py e' = true) :
    SO pg X g0 H0 gb τ (evS C G W (.own i l) env h) (fun D => wS X (.Assign [.Name x py] e' pos) D σ H) := by
  rw [evS]
  obtain ⟨te, rule, q⟩ := ownRule (spos := pos) gx ok st.sim st.en ost osw
  refine SO.bindE (w2 := fun v H1 D => D.nx (σ.set i (some v)) H1) q st.pt (fun D hq => wS_of rule hq) fun xs h1 v H1 g1 _ s1 p1 r1 => ?_
  exact SO.nx (st.setOwn hτ s1 p1 r1 i) fun D hd => hd

/-! ### a, b = x, y -/
def XsR (K : PySem.W.Frag) (g : Gh) (H : Hp) : Hp → List Sl → List V → Prop
  | _, [], vs => vs = []
  | Hs, s :: r, vs => ∃ v t H1, vs = v :: t ∧ (∃ o, s ≠ .no ∧ o = some v ∧ SlR K g H s o) ∧ (∀ xs a, s = .own xs → v = .ref a → Hs a = none ∧ H1 a ≠ none) ∧ (∀ a, Hs a ≠ none → H1 a ≠ none) ∧ XsR K g H H1 r t
theorem XsR.mono {K : PySem.W.Frag} {g' : Gh} {H' : Hp} (p : Pres g H g' H') : ∀ {Hs : Hp} {xs : List Sl} {vs : List V}, XsR K g H Hs xs vs → XsR K g' H' Hs xs vs
  | _, [], _, r => r
  | _, s :: r, _, ⟨v, t, H1, e, ⟨o, hn, eo, q⟩, q2, q3, q4⟩ => ⟨v, t, H1, e, ⟨o, hn, eo, q.mono p⟩, q2, q3, XsR.mono p q4⟩
theorem Pres.more (s : Sim pg.K g h H) {g1 : Gh} {h1 : Sh} {H1 : Hp} (s1 : Sim pg.K g1 h1 H1) (p : Pres g H g1 H1) {a : Addr} (e : H a ≠ none) : H1 a ≠ none := by
  by_cases m : a ∈ g.ι
  · obtain ⟨t, et⟩ := p.i
    obtain ⟨u, hu⟩ := s1.tracked (a := a) (by rw [et]; exact List.mem_append_left _ m)
    rw [hu]
    exact fun z => nomatch z
  · cases q : H a with
    | none => exact (e q).elim
    | some u =>
      rw [(p.k a u q m).1]
      exact fun z => nomatch z
theorem okXs_all : ∀ (ts : List Tm) (ees : List Expr) {g : Gh} {H : Hp} {h : Sh} (gx : GX X c pg tb G C n) (s : Sim pg.K g h H) (en : EnR pg.K g H env σ), okXs c tb ts ees = true → SR pg X σ g H (fun g' H' xs vs => XsR pg.K g' H' H xs vs) (evXs C G ts env h) (wA X ees σ H)
  | [], ees, g, H, h, gx, s, en, ok => by
    cases ees with
    | cons _ _ => cases ok
    | nil =>
      rw [evXs]
      exact fun Q hQ => wA_of pa_nil (hQ [] H g s Pres.refl rfl)
  | t :: ts, ees, g, H, h, gx, s, en, ok => by
    cases ees with
    | nil => cases ok
    | cons e ees =>
      simp only [okXs, Bool.and_eq_true] at ok
      obtain ⟨⟨o1, o2⟩, o3⟩ := ok
      have comb : ∀ Q : List V → Hp → Prop, wE X e σ H (fun x H1 => wA X ees σ H1 fun xs H2 => Q (x :: xs) H2) → wA X (e :: ees) σ H Q := fun Q hq => wA_of (pa_cons pe_w pa_w (star_cons o2)) hq
      cases t with
      | e p =>
        simp only [okX, Bool.and_eq_true] at o1
        rw [evXs]
        refine SR.bind (w2 := fun x H1 Q => wA X ees σ H1 fun xs H2 => Q (x :: xs) H2) ((okE_all p _ X c g H σ env h gx o1.1 s en).vl (npk o1.2)) comb fun x h1 v H1 g1 _ s1 p1 r1 => ?_
        refine SR.bind (w2 := fun xs H2 Q => Q (v :: xs) H2) (okXs_all ts ees gx s1 (en.mono p1) o3) (fun _ hq => hq) fun xs h2 vs H2 g2 _ s2 p2 r2 => ?_
        exact fun Q hQ => hQ _ H2 g2 s2 Pres.refl ⟨v, vs, H1, rfl, ⟨some v, (fun z => nomatch z), rfl, v, rfl, VlR.mono p2 r1⟩, (fun _ _ z => nomatch z), fun a e => Pres.more s s1 p1 e, r2⟩
      | l p =>
        have o1 : okL c tb p e = true := o1
        rw [evXs]
        refine SR.bind (w2 := fun x H1 Q => wA X ees σ H1 fun xs H2 => Q (x :: xs) H2) (okL_all p _ X c g H σ env h gx o1 s en) comb fun x h1 v H1 g1 _ s1 p1 r1 => ?_
        refine SR.bind (w2 := fun xs H2 Q => Q (v :: xs) H2) (okXs_all ts ees gx s1 (en.mono p1) o3) (fun _ hq => hq) fun xs h2 vs H2 g2 _ s2 p2 r2 => ?_
        obtain ⟨a, ws, rfl, hH, z, ni, rl, n0⟩ := r1
        refine fun Q hQ => hQ _ H2 g2 s2 Pres.refl ⟨.ref a, vs, H1, rfl, ⟨_, (fun z => nomatch z), rfl, ?_⟩, fun xs b _ e => ?_, fun a e => Pres.more s s1 p1 e, r2⟩
        · exact SlR.mono p2 (s := .own x) ⟨a, ws, rfl, hH, z, ni, rl⟩
        · cases e
          exact ⟨n0, by rw [hH]; exact fun z => nomatch z⟩
def setAll : List Nat → List V → Sg → Sg
  | i :: is, v :: vs, σ => setAll is vs (σ.set i (some v))
  | _, _, σ => σ
theorem St.setAll (hτ : τ = none) : ∀ {is : List Nat} {xs : List Sl} {vs : List V} {env env' : En} {σ : Sg} {Hs : Hp}, bindAll is xs env = some env' → XsR pg.K g H Hs xs vs → OwnIn Hs env σ → (∀ a, Hs a = none → a ∉ g.ι → H0 a = none) → St pg g0 H0 gb τ g H h env σ →
    vs.length = is.length ∧ St pg g0 H0 gb τ g H h env' (Mi.setAll is vs σ)
  | [], [], vs, env, env', σ, Hs, e, r, ow, fr, st => by
    simp only [bindAll, Option.some.injEq] at e
    subst e
    have r : vs = [] := r
    subst r
    exact ⟨rfl, st⟩
  | i :: is, s :: xs, vs, env, env', σ, Hs, e, r, ow, fr, st => by
    obtain ⟨v, t, H1, rfl, ⟨o, hn, rfl, q⟩, q2, q3, q4⟩ := r
    have e : bindAll is xs (env.set i s) = some env' := e
    have ow1 : ∀ {env1 : En} {σ1 : Sg}, True → OwnIn H1 env σ := fun _ j ys a e1 e2 => q3 a (ow j ys a e1 e2)
    have main : St pg g0 H0 gb τ g H h (env.set i s) (σ.set i (some v)) ∧ OwnIn H1 (env.set i s) (σ.set i (some v)) := by
      cases s with
      | no => exact (hn rfl).elim
      | v x =>
        obtain ⟨v', ev, rx⟩ := q
        cases ev
        refine ⟨st.set hτ rx i, fun j ys a e1 e2 => ?_⟩
        by_cases hj : j = i
        · subst hj
          cases set_self e1
        · rw [List.getElem?_set_ne (Ne.symm hj)] at e1 e2
          exact q3 a (ow j ys a e1 e2)
      | own us =>
        obtain ⟨a, ws, ev, hH, z, ni, rl⟩ := q
        cases ev
        obtain ⟨n0, n1⟩ := q2 us a rfl rfl
        refine ⟨⟨st.sim, st.pz, st.en.setOwn ow hH z ni rl n0, fun j ys b e1 e2 => ?_, fun s e => by rw [hτ] at e; cases e⟩, fun j ys b e1 e2 => ?_⟩
        · by_cases hj : j = i
          · subst hj
            have := set_self e2
            cases this
            exact fr a n0 ni
          · rw [List.getElem?_set_ne (Ne.symm hj)] at e1 e2
            exact st.fr j ys b e1 e2
        · by_cases hj : j = i
          · subst hj
            have := set_self e2
            cases this
            exact n1
          · rw [List.getElem?_set_ne (Ne.symm hj)] at e1 e2
            exact q3 b (ow j ys b e1 e2)
    obtain ⟨l1, st2⟩ := St.setAll hτ (is := is) e q4 main.2 (fun a ha ni => fr a (by
      cases z : Hs a with
      | none => rfl
      | some u => exact (q3 a (by rw [z]; exact fun y => nomatch y) ha).elim) ni) main.1
    exact ⟨by rw [List.length_cons, List.length_cons, l1], st2⟩
  | [], _ :: _, _, _, _, _, _, e, _, _, _, _ => by simp [bindAll] at e
  | _ :: _, [], _, _, _, _, _, e, _, _, _, _ => by simp [bindAll] at e
theorem nmLoc_of {l i : Nat} {e : Expr} (ok : nmLoc c l i e = true) : ∃ x p, e = .Name x p ∧ c.N[i]? = some x ∧ c.sc.names.lookup x = some .local ∧ p.line = l := by
  cases e <;> simp only [nmLoc, Bool.and_eq_true] at ok <;> first | (cases ok; done) | skip
  rename_i x p
  exact ⟨x, p, rfl, of_decide_eq_true ok.1.1, of_decide_eq_true ok.1.2, eq_of_beq ok.2⟩
theorem nmLocs2 {l i j : Nat} {ts : List Expr} (ok : nmLocs c l [i, j] ts = true) : ∃ a b, ts = [a, b] ∧ nmLoc c l i a = true ∧ nmLoc c l j b = true := by
  rcases ts with _ | ⟨a, _ | ⟨b, _ | ⟨d, r⟩⟩⟩ <;> simp [nmLocs] at ok
  exact ⟨a, b, rfl, ok.1, ok.2⟩
theorem nmLocs3 {l i j k : Nat} {ts : List Expr} (ok : nmLocs c l [i, j, k] ts = true) : ∃ a b d, ts = [a, b, d] ∧ nmLoc c l i a = true ∧ nmLoc c l j b = true ∧ nmLoc c l k d = true := by
  rcases ts with _ | ⟨a, _ | ⟨b, _ | ⟨d, _ | ⟨e, r⟩⟩⟩⟩ <;> simp [nmLocs] at ok
  exact ⟨a, b, d, rfl, ok.1, ok.2.1, ok.2.2⟩
/-- the pair is not kept -/
theorem noStars_any : ∀ {vs : List Expr}, noStars vs = true → (vs.any fun | .Starred .. => true | _ => false) = false
  | [], _ => rfl
  | e :: es, ns => by
    rw [noStars, Bool.and_eq_true] at ns
    rw [List.any_cons, noStars_any ns.2, Bool.or_false]
    have := ns.1
    cases e <;> first | rfl | cases this
theorem swp2 {a b : Expr} {x y : Str} {px py : Pos} {k k2 : Nat} {p p2 : Pos} (gx : GX X c pg tb G C n) (ns : noStars [a, b] = true) (nf : [a, b].all (foldedForSure 8) = false) (nc : [a, b].all (constantsAlone 8) = false)
    (hx : X.env.kindOf x = some .local) (hy : X.env.kindOf y = some .local) (hl : py.line = px.line) (hne : x ≠ y) :
    swappedStores [.Tuple [.Name x px, .Name y py] k p] (.Tuple [a, b] k2 p2) X.env = pure (some [x, y]) := by
  have nst := noStars_any ns
  have ed : [x, y].eraseDups.length = 2 := by
    rw [List.eraseDups_cons, List.filter_cons]
    have : (!(y == x)) = true := by simpa using Ne.symm hne
    rw [if_pos this]
    rfl
  have ky : (y == x) = false := by simpa using Ne.symm hne
  unfold swappedStores
  simp only [gx.bk, nst, nf, nc, List.length_cons, List.length_nil, List.head?_cons, Option.map_some, Option.getD_some, Expr.pos, List.filterMap_cons, List.filterMap_nil, hx, hy, hl, beq_self_eq_true, Bool.and_self, if_true, ed]
  split
  · rename_i hh
    exact absurd hh (by decide)
  · split
    · rename_i hh
      have nst' := nst
      exact absurd (hh.symm.trans nst') (by decide)
    · rfl
theorem swp3 {a b d : Expr} {x y z : Str} {px py pz : Pos} {k k2 : Nat} {p p2 : Pos} (gx : GX X c pg tb G C n) (ns : noStars [a, b, d] = true) (nf : [a, b, d].all (foldedForSure 8) = false) (nc : [a, b, d].all (constantsAlone 8) = false)
    (hx : X.env.kindOf x = some .local) (hy : X.env.kindOf y = some .local) (hz : X.env.kindOf z = some .local) (hl : py.line = px.line) (hl2 : pz.line = px.line) (hxy : x ≠ y) (hxz : x ≠ z) (hyz : y ≠ z) :
    swappedStores [.Tuple [.Name x px, .Name y py, .Name z pz] k p] (.Tuple [a, b, d] k2 p2) X.env = pure (some [x, y, z]) := by
  have nst := noStars_any ns
  have ed : [x, y, z].eraseDups.length = 3 := by
    have h1 : (!(y == x)) = true := by simpa using Ne.symm hxy
    have h2 : (!(z == x)) = true := by simpa using Ne.symm hxz
    have h3 : (!(z == y)) = true := by simpa using Ne.symm hyz
    rw [List.eraseDups_cons, List.filter_cons, if_pos h1, List.filter_cons, if_pos h2, List.filter_nil, List.eraseDups_cons, List.filter_cons, if_pos h3]
    rfl
  unfold swappedStores
  simp only [gx.bk, nst, nf, nc, List.length_cons, List.length_nil, List.head?_cons, Option.map_some, Option.getD_some, Expr.pos, List.filterMap_cons, List.filterMap_nil, hx, hy, hz, hl, hl2, beq_self_eq_true, Bool.and_self, if_true, ed]
  split
  · rename_i hh
    exact absurd hh (by decide)
  · split
    · rename_i hh
      have nst' := nst
      exact absurd (hh.symm.trans nst') (by decide)
    · rfl
theorem ne_of_ix {i j : Nat} {x y : Str} (nd : c.N.Nodup) (h1 : c.N[i]? = some x) (h2 : c.N[j]? = some y) (hij : i ≠ j) : x ≠ y := fun e => by
  subst e
  obtain ⟨p1, q1⟩ := List.getElem?_eq_some_iff.mp h1
  obtain ⟨p2, q2⟩ := List.getElem?_eq_some_iff.mp h2
  exact hij ((List.getElem_inj nd).mp (q1.trans q2.symm))
theorem SO.par (hτ : τ = none) {is : List Nat} {tms : List Tm} {ts vs : List Expr} {k k2 : Nat} {p p2 pos : Pos} (gx : GX X c pg tb G C n) (st : St pg g0 H0 gb τ g H h env σ) (op : parB c is ts vs = true) (ok : okXs c tb tms vs = true) :
    SO pg X g0 H0 gb τ (evS C G W (.par is tms) env h) (fun D => wS X (.Assign [.Tuple ts k p] (.Tuple vs k2 p2) pos) D σ H) := by
  rw [evS]
  simp only [parB, Bool.and_eq_true] at op
  obtain ⟨⟨⟨⟨⟨⟨o1, o2⟩, o3⟩, o4⟩, o5⟩, o6⟩, o7⟩ := op
  have o3 := of_decide_eq_true o3
  have o6 : vs.all (foldedForSure 8) = false := by simpa using o6
  have o7 : vs.all (constantsAlone 8) = false := by simpa using o7
  have hv : vs.length = is.length := eq_of_beq o2
  have q := okXs_all tms vs gx st.sim st.en ok
  have loc : ∀ {x : Str}, c.sc.names.lookup x = some .local → X.env.scope.names.lookup x = some .local := fun z => by rw [gx.sc]; exact z
  have fin : (∀ D : Ends, wA X vs σ H (fun ws H1 => ws.length = is.length ∧ D.nx (Mi.setAll is ws σ) H1) → wS X (.Assign [.Tuple ts k p] (.Tuple vs k2 p2) pos) D σ H) → SO pg X g0 H0 gb τ ((evXs C G tms env h).bind fun xs h1 => match bindAll is xs env with
      | some env' => .ok (.nx env') h1
      | none => .no) (fun D => wS X (.Assign [.Tuple ts k p] (.Tuple vs k2 p2) pos) D σ H) := fun comb => by
    refine SO.bindE (w2 := fun ws H1 D => ws.length = is.length ∧ D.nx (Mi.setAll is ws σ) H1) q st.pt comb fun xs h1 ws H1 g1 _ s1 p1 r1 => ?_
    cases e : bindAll is xs env with
    | none => exact trivial
    | some env' =>
      obtain ⟨l1, st'⟩ := St.setAll hτ e r1 st.en.ownIn (fun a ha ni => fresh0 st.pre ha fun m => by
        obtain ⟨t, et⟩ := p1.i
        exact ni (by rw [et]; exact List.mem_append_left _ m)) (st.later s1 p1)
      exact fun D hD => ⟨l1, hD _ H1 g1 st'⟩
  rcases is with _ | ⟨i, _ | ⟨j, _ | ⟨l, _ | ⟨m, r⟩⟩⟩⟩
  · simp at o1
  · simp at o1
  · obtain ⟨ea, eb, rfl, n1, n2⟩ := nmLocs2 o4
    obtain ⟨x, px, rfl, x1, x2, x3⟩ := nmLoc_of n1
    obtain ⟨y, py, rfl, y1, y2, y3⟩ := nmLoc_of n2
    rcases vs with _ | ⟨a, _ | ⟨b, _ | ⟨d, r⟩⟩⟩ <;> simp at hv
    have hij : i ≠ j := by simpa using o3
    refine fin fun D hq => wS_of (ps_par gx.calm (by rw [gx.N]; exact gx.nd) (by rw [gx.N]; exact x1) (by rw [gx.N]; exact y1) hij (loc x2) (loc y2) pa_w (swp2 gx o5 o6 o7 (loc x2) (loc y2) (by rw [y3]; rfl) (ne_of_ix gx.nd x1 y1 hij)) rfl) ?_
    intro pos pins s I
    refine thn (hq pos pins s I) fun us s1 ⟨ws, H1, I1, rv, hl, hd⟩ => ⟨ws, H1, I1, rv, ?_⟩
    rcases ws with _ | ⟨u, _ | ⟨v, _ | ⟨w, r⟩⟩⟩ <;> simp at hl
    exact ⟨u, v, rfl, hd⟩
  · obtain ⟨ea, eb, ed, rfl, n1, n2, n3⟩ := nmLocs3 o4
    obtain ⟨x, px, rfl, x1, x2, x3⟩ := nmLoc_of n1
    obtain ⟨y, py, rfl, y1, y2, y3⟩ := nmLoc_of n2
    obtain ⟨z, pz, rfl, z1, z2, z3⟩ := nmLoc_of n3
    rcases vs with _ | ⟨a, _ | ⟨b, _ | ⟨d, _ | ⟨e, r⟩⟩⟩⟩ <;> simp at hv
    have nd : (i ≠ j ∧ i ≠ l) ∧ j ≠ l := by simpa using o3
    refine fin fun D hq => wS_of (ps_par3 gx.calm (by rw [gx.N]; exact gx.nd) (by rw [gx.N]; exact x1) (by rw [gx.N]; exact y1) (by rw [gx.N]; exact z1) nd.1.1 nd.1.2 nd.2 (loc x2) (loc y2) (loc z2) pa_w
      (swp3 gx o5 o6 o7 (loc x2) (loc y2) (loc z2) (by rw [y3]; rfl) (by rw [z3]; rfl) (ne_of_ix gx.nd x1 y1 nd.1.1) (ne_of_ix gx.nd x1 z1 nd.1.2) (ne_of_ix gx.nd y1 z1 nd.2)) rfl) ?_
    intro pos pins s I
    refine thn (hq pos pins s I) fun us s1 ⟨ws, H1, I1, rv, hl, hd⟩ => ⟨ws, H1, I1, rv, ?_⟩
    rcases ws with _ | ⟨u, _ | ⟨v, _ | ⟨w, _ | ⟨t, r⟩⟩⟩⟩ <;> simp at hl
    exact ⟨u, v, w, rfl, hd⟩
  · simp at o1
end
end Mi
/-! Mi: word, *parts = value. -/
namespace Mi
open PySem PySem.Spec PyProof.Rows L2
section
variable {prog : Program} {w : World} {A : Around} {E : Value → Shared → Prop} {s : Shared}
theorem unpack_starT {l : Addr} {items : Array Value} {i : Nat} {Q : List Value → Shared → Prop} (hl : IsTup s.heap l items) (hh : A.handled = none) (hn : i ≤ items.size) (hz : items.size ≤ sizeLine)
    (h : ∀ (h' : Heap) (tk : Nat), (∀ b o, s.heap.get? b = some o → h'.get? b = some o) → Q (items.toList.take i ++ [.ref h'.objs.size]) { s with heap := h'.push { cls := .type "list", data := .seq (items.toList.drop i).toArray }, toks := tk }) : wpAny (model prog w) A (unpackItems (.ref l) (i + 1) (some i)) Q E s := by
  have hll : l < s.heap.objs.size := hl.elim fun o q => Heap.lt_size q.1
  have hlt : l ≠ s.heap.objs.size := Nat.ne_of_lt hll
  unfold unpackItems notIterableAtAll
  refine wpAny_bind (wpAny_bind (wpAny_specialOf hl.typeIs slot_tuple_iter.lookup (wpAny_pure ?_)))
  simp only [Bool.false_eq_true, if_false]
  refine wpAny_bind (wpAny_holding (iter_tuple hl (wpAny_bind (wpAny_holding (draw_tuple hlt i 0 _ _ ⟨_, Heap.get?_push_size _ rfl, rfl, rfl⟩ (hl.push _) (by omega) fun h₁ hit₁ hs₁ => ?_)))))
  have hl₁ : IsTup h₁ l items := (hl.push _).extBut hs₁.extBut hlt
  rw [Nat.zero_add] at hit₁
  have l1 : s.heap.objs.size < h₁.objs.size := hit₁.elim fun o q => Heap.lt_size q.1
  have l2 : l < h₁.objs.size := hl₁.elim fun o q => Heap.lt_size q.1
  have hfl : ¬ (items.toList.take i).length < i := by rw [List.length_take, Array.length_toList]; omega
  rw [List.drop_zero, if_neg hfl]
  refine wpAny_bind (wpAny_holding (PySem.W.kun_collect (s := { s with heap := h₁ }) (T := "tuple_iterator") (.inr (.inr (.inr rfl))) (Walks.tuple (A := A.in1) hh s.heap.objs.size l hlt items) (fun j u st => st.1.typeIs) (k := i) hn ⟨hit₁, hl₁⟩ l1 l2 (fun h₂ tk hk => ?_) hz))
  have he : ∀ b o, s.heap.get? b = some o → h₂.get? b = some o := fun b o e => have hb : b ≠ s.heap.objs.size := Nat.ne_of_lt (Heap.lt_size e)
    hk b o hb (hs₁.extBut b o hb (Heap.get?_push_of_some _ e))
  show wpAny _ _ (if (items.toList.drop i).length < i + 1 - 1 - i then _ else _) _ _ _
  rw [if_neg (by omega)]
  show wpAny _ _ (newList ((items.toList.drop i).take ((items.toList.drop i).length - (i + 1 - 1 - i))) >>= fun d => pure (items.toList.take i ++ [d] ++ (items.toList.drop i).drop ((items.toList.drop i).length - (i + 1 - 1 - i)))) _ _ _
  have e0 : (items.toList.drop i).length - (i + 1 - 1 - i) = (items.toList.drop i).length := by omega
  rw [e0, List.take_length, List.drop_length]
  refine wpAny_bind (wpAny_newList (s := { s with heap := h₂, toks := tk }) (wpAny_pure ?_) (by rw [List.length_drop, Array.length_toList]; omega))
  rw [List.append_nil]
  exact h h₂ tk he
end
section
variable {pg : Pg} {tb : Tb} {G : Nat → Option PyData} {C : Cf} {n : Nat} {X : Cx} {c : Cd} {g g0 gb : Gh} {τ : Option Sg} {H H0 : Hp} {σ : Sg} {h : Sh} {env : En} {W : Nat}
def gSt (K : PySem.W.Frag) (i r : Nat) : TG := fun v σ H Q => ∃ a x xs, v = .ref a ∧ SqT K H a (x :: xs) ∧ ∀ p, H p = none → Q ((σ.set i (some x)).set r (some (.ref p))) (upd H p (.lst xs))
theorem pg_st {i r : Nat} {x y : Str} {p1 p2 p3 pos : Pos} {k : Nat} (gx : GX X c pg tb G C n) (o1 : stB c i x = true) (o2 : stB c r y = true) : PG X (.Tuple [.Name x p1, .Starred (.Name y p2) p3] k pos) (gSt X.K i r) := by
  refine ⟨fun pins s σ H v u Q I rv hw => ?_⟩
  obtain ⟨a, x0, xs, rfl, hq, hw⟩ := hw
  cases rv
  obtain ⟨its, rl, ht, hz⟩ := I.tuple hq
  have hlen := rl.length
  rw [List.length_cons] at hlen
  rw [assign_Tuple]
  refine wpAny_bind (wpAny_standAt ?_)
  unfold unpack
  show wpAny _ _ (holding _ (unpackItems (.ref a) 2 (some 1)) >>= fun vs => assignInOrder [assign (.Name x p1) X.env, assign (.Name y p2) X.env] vs) _ _ _
  refine wpAny_bind (wpAny_holding (unpack_starT (i := 1) ht (I.ok.hd gx.calm) (by rw [List.size_toArray]; omega) (by rw [List.size_toArray, ← hlen]; exact Nat.le_trans (Nat.le_of_eq (by simp)) hz) fun h' tk hx => ?_))
  have I1 : Inv X pins σ H { s with heap := h', toks := tk } := I.kept hx
  cases rl with
  | cons r0 rr =>
    rename_i u0 us
    have hz' : xs.length ≤ sizeLine := Nat.le_trans (Nat.le_of_lt (Nat.lt_succ_self _)) (by simpa using hz)
    have I2 : Inv X pins σ (upd H h'.objs.size (.lst xs)) { s with heap := h'.push { cls := .type "list", data := .seq ((u0 :: us).toArray.toList.drop 1).toArray }, toks := tk } :=
      I1.laid (t' := tk) (fun b o q => Heap.get?_push_of_some _ q) (Nat.le_refl _) ⟨hz', us, 0, rr, Heap.get?_push_size _ rfl⟩
    have nH : H h'.objs.size = none := I1.hok.fresh (Nat.le_refl _)
    refine assignInOrder_cons (thn ((pg_nm gx o1).run pins _ σ _ x0 u0 _ I2 r0 (show gName i x0 σ _ (fun σ' H' => σ' = σ.set i (some x0) ∧ H' = upd H h'.objs.size (.lst xs)) from ⟨rfl, rfl⟩)) fun _ s3 ⟨σ3, H3, I3, e1, e2⟩ => ?_)
    subst e1 e2
    refine assignInOrder_cons (thn ((pg_nm gx o2).run pins s3 _ _ (.ref h'.objs.size) (.ref h'.objs.size) _ I3 rfl (show gName r _ _ _ Q from hw _ nH)) fun _ s4 q => ?_)
    exact assignInOrder_nil q
theorem SO.star (hτ : τ = none) {i r : Nat} {e : Te} {x y z : Str} {p1 p2 p3 p4 p5 pos : Pos} {k : Nat} (gx : GX X c pg tb G C n) (st : St pg g0 H0 gb τ g H h env σ) (o1 : stB c i x = true) (o2 : stB c r y = true) (oe : okE c tb e (.Name z p4) = true) (np : isPeek e = false) :
    SO pg X g0 H0 gb τ (evS C G W (.asg (.st [i] r) e) env h) (fun D => wS X (.Assign [.Tuple [.Name x p1, .Starred (.Name y p2) p3] k p5] (.Name z p4) pos) D σ H) := by
  rw [evS]
  refine SO.bindE (w2 := fun v H1 (D : Ends) => gSt X.K i r v σ H1 D.nx) ((okE_all e _ X c g H σ env h gx oe st.sim st.en).vl np) st.pt (fun D hq => wS_of (ps_asg pe_w (pg_st gx o1 o2) rfl rfl rfl) hq) fun v h1 vv H1 g1 q1 s1 p1 r1 => ?_
  cases eb : bindTg (.st [i] r) v env with
  | none => exact trivial
  | some env' =>
    unfold bindTg at eb
    split at eb
    · rename_i hq; cases hq
    · rename_i hq; cases hq
    · rename_i hq; cases hq
    · rename_i is r' xs hq
      cases hq
      cases xs with
      | nil => simp [bindSt] at eb
      | cons d ds =>
        simp only [bindSt, Option.some.injEq] at eb
        subst eb
        have r1 : Rp pg.K g1.Z (.tuple (d :: ds)) vv := r1
        simp only [Rp] at r1
        obtain ⟨a, vs, rfl, hq, rl⟩ := r1
        simp only [RpL] at rl
        obtain ⟨v0, vr, rfl, rd, rr⟩ := rl
        have st1 := st.later s1 p1
        refine fun D hD => ⟨a, v0, vr, rfl, by rw [gx.hK]; exact sqT_mono s1.sub hq, fun p np => ?_⟩
        obtain ⟨s2, p2⟩ := s1.frozen np (.lst vr)
        have st2 := (st1.later s2 p2)
        have st3 := st2.set hτ (x := .d d) (Rp.mono p2.z _ _ rd) i
        have rl2 : Rp pg.K (upd g1.Z p (.lst vr)) (.list ds) (.ref p) := by
          simp only [Rp]
          exact ⟨p, vr, rfl, upd_same, RpL.mono p2.z _ _ rr⟩
        exact hD _ _ _ (st3.set hτ (x := .d (.list ds)) rl2 r)
    · cases eb
end
end Mi
/-! Mi: statements: lists changed, loops; all statements. -/
namespace Mi
open PySem PySem.Spec PyProof.Rows L2
section
variable {pg : Pg} {tb : Tb} {G : Nat → Option PyData} {C : Cf} {n : Nat} {X : Cx} {c : Cd} {g g0 gb : Gh} {τ : Option Sg} {H H0 : Hp} {σ : Sg} {h : Sh} {env : En} {W : Nat}

theorem pip_w {op : Operator} : PIp X op (fun x y H Q => ∀ σ, wO X (inplaceOp op) σ x y H Q) := fun pins s σ H x y v u Q I rx ry q => q σ pins s v u I rx ry
theorem SO.aug (hτ : τ = none) {i : Nat} {op : Operator} {e : Te} {x : Str} {e' : Expr} {p pos : Pos} (gx : GX X c pg tb G C n) (st : St pg g0 H0 gb τ g H h env σ) (ost : stB c i x = true) (oop : op = .Add ∨ op = .Sub) (oe : okE c tb e e' = true) (np : isPeek e = false) :
    SO pg X g0 H0 gb τ (evS C G W (.aug i op e) env h) (fun D => wS X (.AugAssign (.Name x p) op e' pos) D σ H) := by
  rw [evS]
  obtain ⟨t1, t2, t3⟩ := stB_of gx ost
  split
  · rename_i x0 ex
    obtain ⟨o, e1, v, rfl, rv⟩ := st.en.at_ i _ ex
    refine SO.bindE (w2 := fun y H1 D => ∀ σ', wO X (inplaceOp op) σ' v y H1 fun z H2 => D.nx (σ.set i (some z)) H2) ((okE_all e _ X c g H σ env h gx oe st.sim st.en).vl np) st.pt
      (fun D hq => wS_of (ps_aug (by rw [gx.N]; exact gx.nd) t1 t2 pe_w pip_w t3) ⟨v, e1, hq⟩) fun y h1 w H1 g1 q1 s1 p1 r1 => ?_
    cases y with
    | d y =>
      dsimp only
      by_cases hf : flatD x0 = true
      · rw [if_pos hf]
        cases eb : binD op x0 y with
        | none => exact trivial
        | some z => exact fun D hD σ' => aug_ok gx.hK s1 (.inl (VlR.mono p1 rv)) (.inl r1) hf eb oop fun z' H2 g2 s2 p2 r2 => hD _ H2 g2 (((st.later s1 p1).later s2 p2).set hτ (x := .d z) r2 i)
      · rw [if_neg hf]; exact trivial
    | _ => exact trivial
  · exact trivial
theorem sw_sole {t e : Expr} {l : Nat} {env : Env} (nc : noComp e = true) : swapsWithSole [t] e l env = pure false := (sw_false nc : swapsWith e (some t) l env = pure false)
theorem SO.setix {r i e : Te} {r' i' e' : Expr} {p2 pos : Pos} (gx : GX X c pg tb G C n) (st : St pg g0 H0 gb τ g H h env σ) (o1 : okE c tb r r' = true) (o2 : okE c tb i i' = true) (o3 : okE c tb e e' = true) (nsl : noSlice i' = true) (nc : noComp e' = true) (np1 : isPeek r = false) (np2 : isPeek i = false) (np3 : isPeek e = false) :
    SO pg X g0 H0 gb τ (evS C G W (.setix r i e) env h) (fun D => wS X (.Assign [.Subscript r' i' p2] e' pos) D σ H) := by
  rw [evS]
  have rule := ps_asg (X := X) (pos := pos) (tg := .Subscript r' i' p2) (pe_w (e := e')) (pg_sub (pe_w (e := r')) (pe_w (e := i')) set_list (by intro v; cases i' <;> first | rfl | cases nsl)) (sw_sole nc) rfl rfl
  refine SO.bindE (w2 := fun v H1 (D : Ends) => wE X r' σ H1 fun o H2 => wE X i' σ H2 fun j H3 => rSetL o j v H3 fun H4 => D.nx σ H4) ((okE_all e _ X c g H σ env h gx o3 st.sim st.en).vl np3) st.pt (fun D hq => wS_of rule hq) fun v h1 vv H1 g1 q1 s1 p1 r1 => ?_
  have st1 := st.later s1 p1
  refine SO.bindE (w2 := fun o H2 (D : Ends) => wE X i' σ H2 fun j H3 => rSetL o j vv H3 fun H4 => D.nx σ H4) ((okE_all r _ X c g1 H1 σ env h1 gx o1 st1.sim st1.en).vl np1) st1.pt (fun D hq => hq) fun x h2 xv H2 g2 q2 s2 p2 r2 => ?_
  have st2 := st1.later s2 p2
  refine SO.bindE (w2 := fun j H3 (D : Ends) => rSetL xv j vv H3 fun H4 => D.nx σ H4) ((okE_all i _ X c g2 H2 σ env h2 gx o2 st2.sim st2.en).vl np2) st2.pt (fun D hq => hq) fun y h3 yv H3 g3 q3 s3 p3 r3 => ?_
  have st3 := st2.later s3 p3
  split
  · rename_i v n j
    split
    · rename_i xs eo
      split
      · rename_i k ek
        have r2' := VlR.mono p3 r2
        obtain ⟨a, ea, rfl⟩ := r2'
        have r3 : Rp pg.K g3.Z (.int j) yv := r3
        simp only [Rp] at r3
        subst r3
        obtain ⟨a', ea', vs, hH, rl⟩ := s3.obj n _ eo
        rw [ea] at ea'
        cases ea'
        obtain ⟨s4, p4⟩ := s3.write ea (rl.set (Rp.mono (p2.trans p3).z _ _ r1) k)
        exact fun D hD => ⟨a, vs, j, k, rfl, rfl, hH, by rw [rl.length]; exact ek, hD σ _ g3 (st3.later s4 p4)⟩
      · exact trivial
    · exact trivial
  · exact trivial
theorem own_at (st : St pg g0 H0 gb τ g H h env σ) {i : Nat} {xs : List PyData} (e : env[i]? = some (.own xs)) : ∃ a vs, σ[i]? = some (some (.ref a)) ∧ H a = some (.lst vs) ∧ RpL pg.K g.Z xs vs := by
  obtain ⟨o, e2, a, vs, rfl, hH, z, ni, rl⟩ := st.en.at_ i _ e
  exact ⟨a, vs, e2, hH, rl⟩
theorem SO.ownix {j : Nat} {i e : Te} {x : Str} {i' e' : Expr} {p p2 pos : Pos} (gx : GX X c pg tb G C n) (st : St pg g0 H0 gb τ g H h env σ) (on : nmB c j x = true) (o2 : okE c tb i i' = true) (o3 : okE c tb e e' = true) (nsl : noSlice i' = true) (nc : noComp e' = true) (np2 : isPeek i = false) (np3 : isPeek e = false) :
    SO pg X g0 H0 gb τ (evS C G W (.ownix j i e) env h) (fun D => wS X (.Assign [.Subscript (.Name x p) i' p2] e' pos) D σ H) := by
  rw [evS]
  obtain ⟨n1, n2, n3, n4⟩ := nmB_of on
  have hv : PE X (.Name x p) (tVar j) := pe_var (by rw [gx.N]; exact n1) (gx.vis n2) n3 n4
  have rule := ps_asg (X := X) (pos := pos) (tg := .Subscript (.Name x p) i' p2) (pe_w (e := e')) (pg_sub hv (pe_w (e := i')) set_list (by intro v; cases i' <;> first | rfl | cases nsl)) (sw_sole nc) rfl rfl
  split
  · rename_i xs eo
    obtain ⟨a, vs, ea, _, _⟩ := own_at st eo
    refine SO.bindE (w2 := fun v H1 (D : Ends) => wE X i' σ H1 fun y H3 => rSetL (.ref a) y v H3 fun H4 => D.nx σ H4) ((okE_all e _ X c g H σ env h gx o3 st.sim st.en).vl np3) st.pt (fun D hq => wS_of rule (wE_mono hq fun v H1 q => ⟨.ref a, ea, q⟩)) fun v h1 vv H1 g1 q1 s1 p1 r1 => ?_
    have st1 := st.later s1 p1
    refine SO.bindE (w2 := fun y H3 (D : Ends) => rSetL (.ref a) y vv H3 fun H4 => D.nx σ H4) ((okE_all i _ X c g1 H1 σ env h1 gx o2 st1.sim st1.en).vl np2) st1.pt (fun D hq => hq) fun y h3 yv H3 g3 q3 s3 p3 r3 => ?_
    have st3 := st1.later s3 p3
    split
    · rename_i v k
      split
      · rename_i q eq
        have r3 : Rp pg.K g3.Z (.int k) yv := r3
        simp only [Rp] at r3
        subst r3
        obtain ⟨a', vs', ea', hH, rl⟩ := own_at st3 eo
        rw [ea] at ea'
        cases ea'
        exact fun D hD => ⟨a, vs', k, q, rfl, rfl, hH, by rw [rl.length]; exact eq, hD σ _ g3 (st3.chg eo ea (rl.set (Rp.mono p3.z _ _ r1) q))⟩
      · exact trivial
    · exact trivial
  · exact trivial
theorem ty_append : typeOf (.builtin "list.append") = pure (.type "method_descriptor") := by show builtinType _ = _; rw [builtinType_eq_fast]; kernel_rfl
theorem ty_extend : typeOf (.builtin "list.extend") = pure (.type "method_descriptor") := by show builtinType _ = _; rw [builtinType_eq_fast]; kernel_rfl
theorem pa_one {e : Expr} (ns : noStar e = true) : PA X [e] (fun σ H Q => wE X e σ H fun x H1 => Q [x] H1) := pa_cons pe_w pa_nil (star_cons ns)
theorem few_of {e : Expr} {cpos : Pos} (ns : noStar e = true) : ((backTo cpos (starEach [e] X.env)).all (fun x => !x.1) && (backToKw cpos (keywordEach [] X.env)).all (fun x => x.1.isSome)
      && decide ([e].length + ([] : List Keyword).length + (if ([] : List Keyword).isEmpty then 0 else 1) < 30)) = true := by
  rw [star_cons ns]
  rfl
theorem SO.app {j : Nat} {e : Te} {x nm : Str} {e' : Expr} {p ap cp pos : Pos} (gx : GX X c pg tb G C n) (st : St pg g0 H0 gb τ g H h env σ) (hnm : nm = ("append" : Str)) (on : nmB c j x = true) (o3 : okE c tb e e' = true) (np3 : isPeek e = false) (ns : noStar e' = true) (hl : (ap.endLine == cp.line) = true) :
    SO pg X g0 H0 gb τ (evS C G W (.app j e) env h) (fun D => wS X (.Expr (.Call (.Attribute (.Name x p) nm ap) [e'] [] cp) pos) D σ H) := by
  subst hnm
  rw [evS]
  obtain ⟨n1, n2, n3, n4⟩ := nmB_of on
  have hv : PE X (.Name x p) (tVar j) := pe_var (by rw [gx.N]; exact n1) (gx.vis n2) n3 n4
  have rule := ps_expr (X := X) (pos := pos) (pe_bm (X := X) PySem.F.plainAttrs_list PySem.F.slot_list_append ty_append mt_append hv (pa_one ns) rfl (few_of ns) hl (star_cons ns) rfl) rfl
  split
  · rename_i xs eo
    obtain ⟨a, vs, ea, hH, _⟩ := own_at st eo
    refine SO.bindE (w2 := fun v H1 (D : Ends) => rAppend (.ref a) [v] H1 fun _ H4 => D.nx σ H4) ((okE_all e _ X c g H σ env h gx o3 st.sim st.en).vl np3) st.pt (fun D hq => wS_of rule ⟨.ref a, ea, .inl ⟨rfl, vs, .of hH⟩, hq⟩) fun v h1 vv H1 g1 q1 s1 p1 r1 => ?_
    have st1 := st.later s1 p1
    split
    · rename_i v
      split
      · rename_i hz
        obtain ⟨a', vs', ea', hH', rl⟩ := own_at st1 eo
        rw [ea] at ea'
        cases ea'
        exact fun D hD => ⟨a, vs', vv, rfl, rfl, hH', by rw [rl.length, ← szL]; exact hz, hD σ _ g1 (st1.chg eo ea (rl.append (RpL.cons r1 RpL.nil)))⟩
      · exact trivial
    · exact trivial
  · exact trivial
theorem SO.ext {j : Nat} {e : Te} {x nm : Str} {e' : Expr} {p ap cp pos : Pos} (gx : GX X c pg tb G C n) (st : St pg g0 H0 gb τ g H h env σ) (hnm : nm = ("extend" : Str)) (on : nmB c j x = true) (o3 : okE c tb e e' = true) (ns : noStar e' = true) (hl : (ap.endLine == cp.line) = true) :
    SO pg X g0 H0 gb τ (evS C G W (.ext j e) env h) (fun D => wS X (.Expr (.Call (.Attribute (.Name x p) nm ap) [e'] [] cp) pos) D σ H) := by
  subst hnm
  rw [evS]
  obtain ⟨n1, n2, n3, n4⟩ := nmB_of on
  have hv : PE X (.Name x p) (tVar j) := pe_var (by rw [gx.N]; exact n1) (gx.vis n2) n3 n4
  have rule := ps_expr (X := X) (pos := pos) (pe_bm (X := X) PySem.F.plainAttrs_list PySem.F.slot_list_extend ty_extend mt_extend hv (pa_one ns) rfl (few_of ns) hl (star_cons ns) rfl) rfl
  split
  · rename_i xs eo
    obtain ⟨a, vs, ea, hH, _⟩ := own_at st eo
    refine SO.bindE (w2 := fun v H1 (D : Ends) => rExtend (.ref a) [v] H1 fun _ H4 => D.nx σ H4) (okE_all e _ X c g H σ env h gx o3 st.sim st.en).v st.pt (fun D hq => wS_of rule ⟨.ref a, ea, .inl ⟨rfl, vs, .of hH⟩, hq⟩) fun v h1 vv H1 g1 q1 s1 p1 r1 => ?_
    have st1 := st.later s1 p1
    split
    · rename_i ys
      split
      · rename_i hz
        obtain ⟨a', vs', ea', hH', rl⟩ := own_at st1 eo
        rw [ea] at ea'
        cases ea'
        obtain ⟨b, ws, rfl, hB, rl2⟩ := PkD.list s1 r1.pk
        exact fun D hD => ⟨a, b, vs', ws, rfl, rfl, hH', hB, by rw [rl.length, rl2.length, ← szL]; exact hz, hD σ _ g1 (st1.chg eo ea (rl.append rl2))⟩
      · exact trivial
    · exact trivial
  · exact trivial
theorem SO.expr {e : Te} {e' : Expr} {pos : Pos} (gx : GX X c pg tb G C n) (st : St pg g0 H0 gb τ g H h env σ) (oe : okE c tb e e' = true) (nc : noComp e' = true) :
    SO pg X g0 H0 gb τ (evS C G W (.expr e) env h) (fun D => wS X (.Expr e' pos) D σ H) := by
  rw [evS]
  refine SO.bindE (w2 := fun v H1 (D : Ends) => D.nx σ H1) (okE_all e _ X c g H σ env h gx oe st.sim st.en).v st.pt (fun D hq => wS_of (ps_expr pe_w (sw_false nc)) hq) fun v h1 vv H1 g1 q1 s1 p1 r1 => ?_
  exact SO.nx (st.later s1 p1) fun D hd => hd
theorem SO.ret {e : Te} {e' : Expr} {pos : Pos} (gx : GX X c pg tb G C n) (st : St pg g0 H0 gb τ g H h env σ) (oe : okE c tb e e' = true) (np : isPeek e = false) :
    SO pg X g0 H0 gb τ (evS C G W (.ret e) env h) (fun D => wS X (.Return (some e') pos) D σ H) := by
  rw [evS]
  refine SO.bindE (w2 := fun v H1 (D : Ends) => D.rt v H1) ((okE_all e _ X c g H σ env h gx oe st.sim st.en).vl np) st.pt (fun D hq => wS_of (ps_ret pe_w) hq) fun v h1 vv H1 g1 q1 s1 p1 r1 => ?_
  exact fun D hD => hD vv H1 g1 s1 (st.pz.trans p1) r1
theorem SO.retN {pos : Pos} (st : St pg g0 H0 gb τ g H h env σ) : SO pg X g0 H0 gb τ (evS C G W .retN env h) (fun D => wS X (.Return none pos) D σ H) := by
  rw [evS]
  exact fun D hD => wS_of ps_retN (hD .non H g st.sim st.pz (by simp only [VlR, Rp]))
theorem SO.iff {t : Te} {a b : List Ts} {t' : Expr} {a' b' : List Stmt} {pos : Pos} (gx : GX X c pg tb G C n) (st : St pg g0 H0 gb τ g H h env σ) (oe : okE c tb t t' = true)
    (ka : ∀ h1 H1 g1, St pg g0 H0 gb τ g1 H1 h1 env σ → SO pg X g0 H0 gb τ (evSs C G W a env h1) (fun D => wSs X a' D σ H1)) (kb : ∀ h1 H1 g1, St pg g0 H0 gb τ g1 H1 h1 env σ → SO pg X g0 H0 gb τ (evSs C G W b env h1) (fun D => wSs X b' D σ H1)) :
    SO pg X g0 H0 gb τ (evS C G W (.iff t a b) env h) (fun D => wS X (.If t' a' b' pos) D σ H) := by
  rw [evS]
  refine SO.bindE (w2 := fun k H1 (D : Ends) => if k = true then wSs X a' D σ H1 else wSs X b' D σ H1) (okE_all t _ X c g H σ env h gx oe st.sim st.en).t st.pt (fun D hq => wS_of (ps_if pt_w pss_w pss_w) hq) fun k h1 k' H1 g1 q1 s1 p1 r1 => ?_
  subst r1
  cases k with
  | true => exact ka h1 H1 g1 (st.later s1 p1)
  | false => exact kb h1 H1 g1 (st.later s1 p1)

/-! ### loops -/
theorem forLoop_stop {body : En → Sh → R Out} {tg : Tg} {env : En} : forLoop body tg [] env h = .ok (.nx env) h := rfl
theorem forLoop_cons {body : En → Sh → R Out} {tg : Tg} {x : Vl} {xs : List Vl} {env env' : En} (e : bindTg tg x env = some env') : forLoop body tg (x :: xs) env h = (body env' h).bind fun o h1 => match o with
      | .nx e => forLoop body tg xs e h1
      | .ct e => forLoop body tg xs e h1
      | .bk e => .ok (.nx e) h1
      | .rt v => .ok (.rt v) h1 := by
  rw [forLoop, e]
  all_goals rfl
/-- what the loop's end is, by the reader's result -/
def Fin (pg : Pg) (X : Cx) (g0 : Gh) (H0 : Hp) (gb : Gh) (τ : Option Sg) (r : R Out) (D : Ends) (K : Prop) : Prop := match r with
  | .ok (.nx env') h' => (∀ σ' H' g', St pg g0 H0 gb τ g' H' h' env' σ' → D.nx σ' H') → K
  | .ok (.bk env') h' => (∀ σ' H' g', St pg g0 H0 gb τ g' H' h' env' σ' → D.bk σ' H') → K
  | .ok (.ct env') h' => (∀ σ' H' g', St pg g0 H0 gb τ g' H' h' env' σ' → D.ct σ' H') → K
  | .ok (.rt x) h' => (∀ v H' g', Sim pg.K g' h' H' → PZ g0 H0 gb g' H' → VlR pg.K g' x v → D.rt v H') → K
  | .ex e h' => ∀ W : WX, Takes X W → (∀ cls dx σ' H' g', Sim pg.K g' h' H' → PQ g0 H0 gb τ g' H' σ' → ErR pg e cls dx H' g' → W cls dx σ' H') → K
  | .no => True
theorem SO.of {r : R Out} {w : Ends → Prop} (f : ∀ D, Fin pg X g0 H0 gb τ r D (w D)) : SO pg X g0 H0 gb τ r w := by
  cases r with
  | no => exact trivial
  | ex e h' => exact fun W tk hW D => f D W tk hW
  | ok o h' => cases o <;> exact fun D hD => f D hD
theorem SO.fin {r : R Out} {w : Ends → Prop} (q : SO pg X g0 H0 gb τ r w) (D : Ends) : Fin pg X g0 H0 gb τ r D (w D) := by
  cases r with
  | no => exact trivial
  | ex e h' => exact fun W tk hW => q W tk hW D
  | ok o h' => cases o <;> exact fun hD => q D hD
/-- the wish is kept: reach r with D -/
def Wish (pg : Pg) (X : Cx) (g0 : Gh) (H0 : Hp) (gb : Gh) (τ : Option Sg) (r : R Out) (D : Ends) : Prop := match r with
  | .ok (.nx env') h' => ∀ σ' H' g', St pg g0 H0 gb τ g' H' h' env' σ' → D.nx σ' H'
  | .ok (.bk env') h' => ∀ σ' H' g', St pg g0 H0 gb τ g' H' h' env' σ' → D.bk σ' H'
  | .ok (.ct env') h' => ∀ σ' H' g', St pg g0 H0 gb τ g' H' h' env' σ' → D.ct σ' H'
  | .ok (.rt x) h' => ∀ v H' g', Sim pg.K g' h' H' → PZ g0 H0 gb g' H' → VlR pg.K g' x v → D.rt v H'
  | .ex e h' => ∃ W : WX, Takes X W ∧ ∀ cls dx σ' H' g', Sim pg.K g' h' H' → PQ g0 H0 gb τ g' H' σ' → ErR pg e cls dx H' g' → W cls dx σ' H'
  | .no => False
theorem Fin.of {r : R Out} {D : Ends} {K : Prop} (f : Wish pg X g0 H0 gb τ r D → K) : Fin pg X g0 H0 gb τ r D K := by
  cases r with
  | no => exact trivial
  | ex e h' => exact fun W tk hW => f ⟨W, tk, hW⟩
  | ok o h' => cases o <;> exact fun hD => f hD
theorem SO.run {r : R Out} {w : Ends → Prop} (q : SO pg X g0 H0 gb τ r w) {D : Ends} (wi : Wish pg X g0 H0 gb τ r D) : w D := by
  cases r with
  | no => exact wi.elim
  | ex e h' => exact let ⟨W, tk, hW⟩ := wi; q W tk hW D
  | ok o h' => cases o <;> exact q D wi
theorem SO.earlier {g1 : Gh} {r : R Out} {w : Ends → Prop} (m : ∀ a o, gb.Z a = some o → g1.Z a = some o) (q : SO pg X g0 H0 g1 τ r w) : SO pg X g0 H0 gb τ r w := by
  cases r with
  | no => exact trivial
  | ex e h' => exact fun W tk hW D => q W tk (fun cls dx σ' H' g' s p e => hW cls dx σ' H' g' s ⟨⟨p.pz.pre, fun a o z => p.pz.zm a o (m a o z)⟩, p.ts⟩ e) D
  | ok o h' => cases o with
    | rt v => exact fun D hD => q D fun v H' g' s p r => hD v H' g' s ⟨p.pre, fun a o z => p.zm a o (m a o z)⟩ r
    | nx _ => exact fun D hD => q D fun σ' H' g' st => hD σ' H' g' (st.earlier m)
    | bk _ => exact fun D hD => q D fun σ' H' g' st => hD σ' H' g' (st.earlier m)
    | ct _ => exact fun D hD => q D fun σ' H' g' st => hD σ' H' g' (st.earlier m)
/-- a turn of a loop -/
theorem loop_turn {r rl : R Out} {f : En → Sh → R Out} {w : Ends → Prop} {D : Ends} {N : Sg → Hp → Prop} {g1 g' : Gh} (m1 : ∀ a o, gb.Z a = some o → g1.Z a = some o) (m : ∀ a o, g1.Z a = some o → g'.Z a = some o) (q : SO pg X g0 H0 g' τ r w)
    (el : (r.bind fun o h1 => match o with
      | .nx e => f e h1
      | .ct e => f e h1
      | .bk e => .ok (.nx e) h1
      | .rt v => .ok (.rt v) h1) = rl) (wi : Wish pg X g0 H0 gb τ rl D) (hN : ∀ σ2 H2 g2 env2 h2, St pg g0 H0 gb τ g2 H2 h2 env2 σ2 → (∀ a o, g1.Z a = some o → g2.Z a = some o) → f env2 h2 = rl → N σ2 H2) : w { D with nx := N, ct := N, bk := D.nx } := by
  have mm : ∀ a o, gb.Z a = some o → g'.Z a = some o := fun a o e => m a o (m1 a o e)
  cases r with
  | no =>
    have el : (R.no : R Out) = rl := el
    rw [← el] at wi
    exact wi.elim
  | ex e h' =>
    have el : (R.ex e h' : R Out) = rl := el
    rw [← el] at wi
    obtain ⟨W, tk, hW⟩ := wi
    exact q.earlier mm W tk hW _
  | ok o h' =>
    cases o with
    | nx e => exact q _ fun σ' H' g2 st => hN σ' H' g2 e h' (st.earlier mm) (fun a o z => st.pz.zm a o (m a o z)) el
    | ct e => exact q _ fun σ' H' g2 st => hN σ' H' g2 e h' (st.earlier mm) (fun a o z => st.pz.zm a o (m a o z)) el
    | bk e =>
      have el : (R.ok (.nx e) h' : R Out) = rl := el
      rw [← el] at wi
      exact q _ fun σ' H' g2 st => wi σ' H' g2 (st.earlier mm)
    | rt v =>
      have el : (R.ok (.rt v) h' : R Out) = rl := el
      rw [← el] at wi
      exact q _ fun v H' g2 s p r => wi v H' g2 s ⟨p.pre, fun a o z => p.zm a o (mm a o z)⟩ r
theorem SO.for (hτ : τ = none) {tg : Tg} {k : Mi.It} {es : List Te} {body : List Ts} {tg' it' : Expr} {body' : List Stmt} {pos : Pos} (gx : GX X c pg tb G C n) (st : St pg g0 H0 gb τ g H h env σ) (ot : tgB c tg tg' = true) (oi : itB c (okEs c tb false es) tg k it' = true)
    (kb : ∀ h1 H1 gb g1 env1 σ1, St pg g0 H0 gb τ g1 H1 h1 env1 σ1 → SO pg X g0 H0 gb τ (evSs C G W body env1 h1) (fun D => wSs X body' D σ1 H1)) :
    SO pg X g0 H0 gb τ (evS C G W (.for tg k es body) env h) (fun D => wS X (.For tg' it' body' [] pos) D σ H) := by
  have e0 : evS C G W (.for tg k es body) env h = (itR C G k es env h).bind fun items h1 => forLoop (evSs C G W body) tg items env h1 := by
    rw [evS]
    unfold itR
    cases evEs C G es env h with
    | no => rfl
    | ex _ _ => rfl
    | ok xs h1 =>
      show (match evIt k xs with | some items => _ | none => _) = R.bind (match evIt k xs with | some items => _ | none => _) _
      cases evIt k xs <;> rfl
  rw [e0]
  have nst : (∃ is r, tg = .st is r) → False := fun ⟨is, r, e⟩ => by subst e; cases tg' <;> cases ot
  have rule := ps_for (X := X) (pos := pos) (iter := it') (body := body') gx.po gx.calm pi_w (pg_of gx ot) pss_w (folded_of (itB_noSet oi))
  have q1 := SI.all gx oi ⟨c, ot⟩ (fun ees oe => okEs_all es false ees X c g H σ env h gx oe st.sim st.en) (fun e hp oe => okOne_all es e X c g H σ env h gx oe st.sim st.en)
  refine SO.bindE (w2 := fun (J : L2.It) H1 (D : Ends) => ∃ W : Nat → Nat → Sg → Hp → Prop, (∃ m, W 0 m σ H1) ∧ ∀ i m σ H, W i m σ H →
    (J.stop i H ∧ D.nx σ H) ∨ (J.go i H ∧ ∃ N : Sg → Hp → Prop, (∀ σ' H', N σ' H' → ∃ m', m' < m ∧ W (i + 1) m' σ' H') ∧ ∀ x H', J.yld i H x H' → gOf pg.K tg x σ H' fun σ2 H2 => wSs X body' { D with nx := N, ct := N, bk := D.nx } σ2 H2)) q1 st.pt (fun D hq => wS_of rule hq) fun items h1 J H1 g1 _ s1 p1 wk => ?_
  refine SO.of fun D => Fin.of fun wi => ?_
  refine ⟨fun i m σc Hc => m = items.length - i ∧ i ≤ items.length ∧ ∃ gc hc envc, St pg g0 H0 gb τ gc Hc hc envc σc ∧ (∀ a o, g1.Z a = some o → gc.Z a = some o) ∧ forLoop (evSs C G W body) tg (items.drop i) envc hc = forLoop (evSs C G W body) tg items env h1,
    ⟨items.length, by omega, Nat.zero_le _, g1, h1, env, st.later s1 p1, fun _ _ z => z, rfl⟩, ?_⟩
  rintro i m σc Hc ⟨rfl, hi, gc, hc, envc, sc, zm, el⟩
  by_cases hlt : i < items.length
  · refine .inr ⟨wk.go i gc hc Hc sc.sim zm hlt, fun σ' H' => ∃ gc hc envc, St pg g0 H0 gb τ gc H' hc envc σ' ∧ (∀ a o, g1.Z a = some o → gc.Z a = some o) ∧ forLoop (evSs C G W body) tg (items.drop (i + 1)) envc hc = forLoop (evSs C G W body) tg items env h1,
      fun σ' H' hN => ⟨items.length - (i + 1), by omega, rfl, hlt, hN⟩, fun x' H' y => ?_⟩
    obtain ⟨g', y', ei, s', p', ry⟩ := wk.yld i gc hc Hc x' H' sc.sim zm hlt y
    have edrop : items.drop i = y' :: items.drop (i + 1) := by
      rw [List.drop_eq_getElem_cons hlt]
      have := List.getElem?_eq_getElem hlt
      rw [ei] at this
      cases this
      rfl
    rw [edrop] at el
    cases eb : bindTg tg y' envc with
    | none =>
      rw [forLoop, eb] at el
      rw [← el] at wi
      exact wi.elim
    | some env' =>
      rw [forLoop_cons eb] at el
      refine (sc.later s' p').bind hτ nst eb ry fun σ2 st2 => ?_
      exact loop_turn (g1 := g1) (fun a o z => p1.z a o (st.pz.zm a o z)) (fun a o z => p'.z a o (zm a o z)) (kb hc H' g' g' env' σ2 st2.rebase) el wi fun σ3 H3 g3 env3 h3 st3 m3 e3 => ⟨g3, h3, env3, st3, m3, e3⟩
  · have ei : i = items.length := by omega
    subst ei
    rw [List.drop_length, forLoop_stop] at el
    rw [← el] at wi
    exact .inl ⟨wk.stop gc hc Hc sc.sim zm, wi σc Hc gc sc⟩
theorem SO.while {t : Te} {body : List Ts} {t' : Expr} {body' : List Stmt} {pos : Pos} (gx : GX X c pg tb G C n) (st : St pg g0 H0 gb τ g H h env σ) (oe : okE c tb t t' = true)
    (kb : ∀ h1 H1 gb g1 env1 σ1, St pg g0 H0 gb τ g1 H1 h1 env1 σ1 → SO pg X g0 H0 gb τ (evSs C G W body env1 h1) (fun D => wSs X body' D σ1 H1)) :
    SO pg X g0 H0 gb τ (evS C G W (.while t body) env h) (fun D => wS X (.While t' body' [] pos) D σ H) := by
  rw [evS]
  have rule := ps_while (X := X) (pos := pos) (c := t') (body := body') gx.po pt_w pss_w
  refine SO.of fun D => Fin.of fun wi => wS_of rule ?_
  refine ⟨fun m σc Hc => ∃ gc hc envc, St pg g0 H0 gb τ gc Hc hc envc σc ∧ whLoop (fun e g => tru (evE C G t e g)) (evSs C G W body) m envc hc = whLoop (fun e g => tru (evE C G t e g)) (evSs C G W body) W env h, ⟨W, g, h, env, st, rfl⟩, ?_⟩
  rintro m σc Hc ⟨gc, hc, envc, sc, el⟩
  cases m with
  | zero =>
    rw [whLoop] at el
    rw [← el] at wi
    exact wi.elim
  | succ m =>
    rw [whLoop] at el
    have q := (okE_all t _ X c gc Hc σc envc hc gx oe sc.sim sc.en).t
    cases et : tru (evE C G t envc hc) with
    | no =>
      rw [et] at el
      have el : (R.no : R Out) = _ := el
      rw [← el] at wi
      exact wi.elim
    | ex e h' =>
      rw [et] at el q
      have el : (R.ex e h' : R Out) = _ := el
      rw [← el] at wi
      obtain ⟨W', tk, hW⟩ := wi
      exact q W' tk (fun cls dx H' g' s p e => hW cls dx σc H' g' s ⟨sc.pz.trans p, sc.ts⟩ e) _
    | ok b h2 =>
      rw [et] at el q
      refine q _ fun b' H2 g2 s2 p2 rb => ?_
      subst rb
      have st2 := sc.later s2 p2
      cases b with
      | false =>
        have el : (R.ok (.nx envc) h2 : R Out) = _ := el
        rw [← el] at wi
        rw [if_neg Bool.false_ne_true]
        exact wi σc H2 g2 st2
      | true =>
        rw [if_pos rfl]
        refine ⟨fun σ' H' => ∃ gc hc envc, St pg g0 H0 gb τ gc H' hc envc σ' ∧ whLoop (fun e g => tru (evE C G t e g)) (evSs C G W body) m envc hc = whLoop (fun e g => tru (evE C G t e g)) (evSs C G W body) W env h, fun σ' H' hN => ⟨m, Nat.lt_succ_self m, hN⟩, ?_⟩
        exact loop_turn (g1 := gb) (fun _ _ z => z) (fun a o z => st2.pz.zm a o z) (kb h2 H2 g2 g2 envc σc st2.rebase) el wi fun σ3 H3 g3 env3 h3 st3 m3 e3 => ⟨g3, h3, env3, st3, e3⟩
end
end Mi
/-! Mi: raise, try. -/
namespace Mi
open PySem PySem.Spec PyProof.Rows L2
section
variable {pg : Pg} {tb : Tb} {G : Nat → Option PyData} {C : Cf} {n : Nat} {X : Cx} {c : Cd} {g g0 gb : Gh} {τ : Option Sg} {H H0 : Hp} {σ : Sg} {h : Sh} {env : En} {W : Nat}

theorem SO.raise {k j : Nat} {x m : Str} {p p1 p2 p3 : Pos} (gx : GX X c pg tb G C n) (st : St pg g0 H0 gb τ g H h env σ) (og : glB c x = true) (oc : tb.cs k = some x) :
    SO pg X g0 H0 gb τ (evS C G W (.raise k) env h) (fun D => wS X (.Raise (some (.Call (.Name x p) [.Constant (.str m) j p1] [] p2)) none p3) D σ H) := by
  rw [evS]
  obtain ⟨D0, ec, em, K⟩ := gx.ct.cs k x oc
  obtain ⟨o1, o2⟩ := glB_of og
  intro W' tk hW D
  have rs : Raises X (.ref D0) := raises_own (by rw [gx.hK]; exact K.be) (by rw [gx.hK]; exact K.ty)
  refine wS_of (ps_raise gx.calm tk (pmk_own PySem.F.excBase_ValueError (by rw [gx.hK]; exact K.ex) (by rw [gx.hm]; exact em) (by rw [gx.hK]; exact K.kp) rs (gx.gl' o1) o2)) ?_
  exact hW (.ref D0) none σ H g st.sim st.pt ⟨D0, ec, rfl, rfl⟩

/-! ### the except suite -/
/-- the frame of a def's body -/
structure FrX (X : Cx) : Prop where
  hs : X.stack = X.env :: X.outer
  hf : X.env.frame = some X.env.locals
/-- the error that a suite holds -/
structure Held (pg : Pg) (X X' : Cx) (a : Addr) (k : Nat) (D : Addr) : Prop where
  ex : ∃ (oe : Obj) (pn : List (Addr × Obj)), X' = X.suite a ((a, oe) :: pn) ∧ Zc (.ref D) none oe ∧ ∃ vs, oe.data = .fields vs
  cl : pg.cl k = some D
theorem Ht.ok {i k : Nat} {a D : Addr} {X' : Cx} (gx : GX X c pg tb G C n) (hd : Held pg X X' a k D) : ∀ (t : Ht) (e : Expr), okHt c tb i t e = true → PT X' e (fun σ H Q => σ[i]? = some (some (.ref a)) ∧ Q (evHt t k) H)
  | .isx m cls, e, ok => by
    unfold okHt at ok
    split at ok
    all_goals first | (cases ok; done) | (rename_i hq; cases hq; done) | skip
    rename_i hq
    cases hq
    rename_i x p1 y p2 z p3 p4
    simp only [Bool.and_eq_true] at ok
    obtain ⟨⟨⟨⟨⟨⟨⟨h1, h2⟩, h3⟩, h4⟩, h5⟩, h6⟩, h7⟩, h8⟩ := ok
    have h1 := of_decide_eq_true h1
    subst h1
    obtain ⟨oe, pn, rfl, hz, hf⟩ := hd.ex
    obtain ⟨lt, xc⟩ := gx.ct.lt k D hd.cl
    obtain ⟨E, ec, em, K⟩ := gx.ct.cs m z (of_decide_eq_true h7)
    obtain ⟨_, kit⟩ := gx.ct.sb k m D E hd.cl ec
    obtain ⟨o1, o2⟩ := glB_of h2
    obtain ⟨o3, o4⟩ := glB_of h6
    obtain ⟨o5, o6⟩ := plain_dbg h5
    have pv : PE (X.suite a ((a, oe) :: pn)) (.Name y p2) (tVar i) := pe_var (by show X.N[i]? = _; rw [gx.N]; exact of_decide_eq_true h3) (gx.vis h4) o5 o6
    have pz : PE (X.suite a ((a, oe) :: pn)) (.Name z p3) (tC (.ref E)) := pe_glob (gx.gl' o3) (by show X.mg z = _; rw [gx.hm]; exact em) rfl o4
    have rule := pe_callB (X := X.suite a ((a, oe) :: pn)) (p := p1) (pos := p4) (call_isE (by show ExcC X.K D; rw [gx.hK]; exact xc) hz hf) (gx.gl' o1) (bt_nm gx (by decide +kernel)) (by decide +kernel) (pa_cons pv (pa_cons pz pa_nil)) (by decide) o2
    refine ⟨fun pins s σ H Q I q => (pt_val rule).run pins s σ H Q I ?_⟩
    refine ⟨.ref a, q.1, .ref E, .ref E, tb.sub k m, rfl, fun u hu => hu, by show PySem.W.kitOne X.K _ _ = _; rw [gx.hK]; exact kit, _, rfl, ?_⟩
    have e1 : evHt (.isx m cls) k = tb.sub k m := by
      rw [evHt, of_decide_eq_true h8]
      have : (((List.range tb.nc).filter fun j => tb.sub j m).contains k) = decide (k ∈ (List.range tb.nc).filter fun j => tb.sub j m) := by simp
      rw [this]
      cases hb : tb.sub k m with
      | true => exact decide_eq_true (List.mem_filter.mpr ⟨List.mem_range.mpr lt, hb⟩)
      | false => exact decide_eq_false fun z => by rw [(List.mem_filter.mp z).2] at hb; cases hb
    rw [← e1]
    exact q.2
  | .and t u, e, ok => by
    unfold okHt at ok
    split at ok
    all_goals first | (cases ok; done) | (rename_i hq; cases hq; done) | skip
    rename_i hq
    cases hq
    rw [Bool.and_eq_true] at ok
    have q1 := Ht.ok gx hd t _ ok.1
    have q2 := Ht.ok gx hd u _ ok.2
    refine ⟨fun pins s σ H Q I q => (pw_and q1 (pw_and1 q2)).run _ pins s σ H Q I ⟨q.1, ?_⟩⟩
    have q := q
    rw [evHt] at q
    cases hb : evHt t k with
    | true => rw [hb, Bool.true_and] at q; exact q
    | false => rw [hb, Bool.false_and] at q; exact q.2
  | .or t u, e, ok => by
    unfold okHt at ok
    split at ok
    all_goals first | (cases ok; done) | (rename_i hq; cases hq; done) | skip
    rename_i hq
    cases hq
    rw [Bool.and_eq_true] at ok
    have q1 := Ht.ok gx hd t _ ok.1
    have q2 := Ht.ok gx hd u _ ok.2
    refine ⟨fun pins s σ H Q I q => (pw_or q1 (pw_or1 q2)).run _ pins s σ H Q I ⟨q.1, ?_⟩⟩
    have q := q
    rw [evHt] at q
    cases hb : evHt t k with
    | false => rw [hb, Bool.false_or] at q; exact q
    | true => rw [hb, Bool.true_or] at q; exact q.2
  | .not t, e, ok => by
    unfold okHt at ok
    split at ok
    all_goals first | (cases ok; done) | (rename_i hq; cases hq; done) | skip
    rename_i hq
    cases hq
    have q1 := Ht.ok gx hd t _ ok
    exact ⟨fun pins s σ H Q I q => (pt_not q1).run pins s σ H Q I ⟨q.1, by have := q.2; rw [evHt] at this; exact this⟩⟩
/-- plain data, told without a heap -/
theorem He.ok {i k : Nat} {a D : Addr} {X' : Cx} (gx : GX X c pg tb G C n) (hd : Held pg X X' a k D) : ∀ (t : He) (e : Expr), okH c tb i t e = true → PE X' e (fun σ H Q => σ[i]? = some (some (.ref a)) ∧ ∀ v, Rp pg.K (fun _ => none) (evH t k) v → Q v H)
  | .cst d, e, ok => by
    unfold okH at ok
    split at ok
    all_goals first | (cases ok; done) | (rename_i hq; cases hq; done) | skip
    rename_i hq
    cases hq
    unfold cstB at ok
    refine ⟨fun pins s σ H Q I q => ?_⟩
    have q := q.2
    split at ok
    · exact pe_non.run pins s σ H Q I (q _ (by simp only [evH, Rp]))
    · cases eq_of_beq ok; exact pe_bl.run pins s σ H Q I (q _ (by simp only [evH, Rp]))
    · cases eq_of_beq ok; exact pe_int.run pins s σ H Q I (q _ (by simp only [evH, Rp]))
    · cases eq_of_beq ok; exact pe_str.run pins s σ H Q I (q _ (by simp only [evH, Rp]))
    · cases ok
  | .ite t x y, e, ok => by
    unfold okH at ok
    split at ok
    all_goals first | (cases ok; done) | (rename_i hq; cases hq; done) | skip
    rename_i hq
    cases hq
    simp only [Bool.and_eq_true] at ok
    obtain ⟨⟨h1, h2⟩, h3⟩ := ok
    refine ⟨fun pins s σ H Q I q => (pe_ifExp (Ht.ok gx hd t _ h1) (He.ok gx hd x _ h2) (He.ok gx hd y _ h3)).run pins s σ H Q I ⟨q.1, ?_⟩⟩
    have q := q
    cases hb : evHt t k with
    | true =>
      refine (if_pos rfl : (if true = true then _ else _) = _).mpr ⟨q.1, fun v r => q.2 v ?_⟩
      rw [evH, hb]; exact r
    | false =>
      refine (if_neg Bool.false_ne_true : (if false = true then _ else _) = _).mpr ⟨q.1, fun v r => q.2 v ?_⟩
      rw [evH, hb]; exact r
theorem GX.try (gx : GX X c pg tb G C n) {pn : List (Addr × Obj)} {xe : Value → Shared → Prop} (po : PassesOwn (model X.prog X.w) X.A X.env xe) : GX (X.tr pn xe) c pg tb G C n :=
  ⟨gx.hP, gx.hw, gx.hK, gx.hm, gx.hb, gx.N, gx.nd, gx.sc, gx.kd, gx.fn, gx.calm, po, gx.room, gx.gd, gx.gl, gx.bt, gx.ct, gx.cl⟩
theorem St.tau {τ' : Option Sg} (st : St pg g0 H0 gb τ g H h env σ) (ts : ∀ s, τ' = some s → σ = s) : St pg g0 H0 gb τ' g H h env σ := ⟨st.sim, st.pz, st.en, st.fr, ts⟩
theorem SO.tryE {body : List Ts} {k i : Nat} {cls : List Nat} {hd : He} {body' : List Stmt} {x nm : Str} {e' : Expr} {p1 p2 p3 p4 : Pos} (gx : GX X c pg tb G C n) (hs : X.stack = X.env :: X.outer) (hf : X.env.frame = some X.env.locals) (st : St pg g0 H0 gb τ g H h env σ)
    (og : glB c x = true) (oc : tb.cs k = some x) (ol : cls = (List.range tb.nc).filter fun j => tb.sub j k) (oN : c.N[i]? = some nm) (ok : c.sc.names.lookup nm = some .local) (oh : okH c tb i hd e' = true)
    (kb : ∀ (X' : Cx), GX X' c pg tb G C n → FrX X' → SO pg X' g0 H0 gb (some σ) (evSs C G W body env h) (fun D => wSs X' body' D σ H)) :
    SO pg X g0 H0 gb τ (evS C G W (.tryE body k cls i hd) env h) (fun D => wS X (.Try body' [.ExceptHandler (some (.Name x p1)) (some nm) [.Return (some e') p2] p3] [] [] p4) D σ H) := by
  rw [evS]
  obtain ⟨o1, o2⟩ := glB_of og
  obtain ⟨E, ec, em, K⟩ := gx.ct.cs k x oc
  have hln : X.env.kindOf nm = some .local := by show X.env.scope.names.lookup nm = _; rw [gx.sc]; exact ok
  have names : Names X x (.ref E) := ⟨gx.gl' o1, o2, .inl (by rw [gx.hm]; exact em)⟩
  have rule := fun (Wout : WX) (tk : Takes X Wout) => ps_try_as (X := X) (np := p1) (pos := p4) (pos' := p3) (body := body') (b₀ := .Return (some e') p2) (suite := []) (i := i) (Wout := Wout)
    (tb := fun W D σ H => ∀ pn xe, Takes (X.tr pn xe) W → PassesOwn (model X.prog X.w) X.A X.env xe → wSs (X.tr pn xe) body' D σ H)
    (ts := fun a cls d D σ H => ∀ oe pn, Zc cls d oe → (∃ vs, oe.data = .fields vs) → wSs (X.suite a ((a, oe) :: pn)) [.Return (some e') p2] D σ H)
    hs hf (by rw [gx.N]; exact gx.nd) (by rw [gx.N]; exact oN) hln names tk (fun W pn xe tk po => ⟨fun pins s σ H D I q => q pn xe tk po pins s I⟩) (fun a oe cls d pn hz hv => ⟨fun pins s σ H D I q => q oe pn hz hv pins s I⟩)
  have ts' : ∀ {σ' : Sg} {g' : Gh} {H' : Hp} {h' : Sh} {env' : En}, St pg g0 H0 gb (some σ) g' H' h' env' σ' → St pg g0 H0 gb τ g' H' h' env' σ' := fun q => q.tau fun s e => (q.ts σ rfl).trans (st.ts s e)
  cases hr : evSs C G W body env h with
  | no => exact trivial
  | ok o h' =>
    have go : ∀ D : Ends, (∀ X', GX X' c pg tb G C n → FrX X' → wSs X' body' D σ H) → wS X (.Try body' [.ExceptHandler (some (.Name x p1)) (some nm) [.Return (some e') p2] p3] [] [] p4) D σ H := fun D q =>
      wS_of (rule _ takes0) fun pn xe tk po => q (X.tr pn xe) (gx.try po) (FrX.mk (X := X.tr pn xe) hs hf)
    cases o with
    | nx env' =>
      refine fun D hD => go D fun X' gx' fx' => ?_
      have q := kb X' gx' fx'
      rw [hr] at q
      exact q D fun σ' H' g' st' => hD σ' H' g' (ts' st')
    | bk env' =>
      refine fun D hD => go D fun X' gx' fx' => ?_
      have q := kb X' gx' fx'
      rw [hr] at q
      exact q D fun σ' H' g' st' => hD σ' H' g' (ts' st')
    | ct env' =>
      refine fun D hD => go D fun X' gx' fx' => ?_
      have q := kb X' gx' fx'
      rw [hr] at q
      exact q D fun σ' H' g' st' => hD σ' H' g' (ts' st')
    | rt v =>
      refine fun D hD => go D fun X' gx' fx' => ?_
      have q := kb X' gx' fx'
      rw [hr] at q
      exact q D hD
  | ex er h' =>
    -- an error of the body
    have key : ∀ (D : Ends) (Wout : WX), Takes X Wout → (∀ cls dx σ' H' g', σ' = σ → Sim pg.K g' h' H' → PZ g0 H0 gb g' H' → ErR pg er cls dx H' g' → wAs X.K (.ref E) i (fun a cls d D σ H => ∀ oe pn, Zc cls d oe → (∃ vs, oe.data = .fields vs) → wSs (X.suite a ((a, oe) :: pn)) [.Return (some e') p2] D σ H) Wout D cls dx σ' H') →
        wS X (.Try body' [.ExceptHandler (some (.Name x p1)) (some nm) [.Return (some e') p2] p3] [] [] p4) D σ H := fun D Wout tk q => by
      refine wS_of (rule Wout tk) fun pn xe tk' po => ?_
      have q2 := kb (X.tr pn xe) (gx.try po) (FrX.mk (X := X.tr pn xe) hs hf)
      rw [hr] at q2
      exact q2 _ tk' (fun cls dx σ' H' g' s p e => q cls dx σ' H' g' (p.ts σ rfl) s p.pz e) D
    have cont : cls.contains er.c = true → ∀ D0, pg.cl er.c = some D0 → tb.sub er.c k = true := fun hc D0 e0 => by
      rw [ol] at hc
      have := (List.mem_filter.mp (by simpa using hc : er.c ∈ (List.range tb.nc).filter fun j => tb.sub j k)).2
      exact this
    have ncont : cls.contains er.c = false → ∀ D0, pg.cl er.c = some D0 → tb.sub er.c k = false := fun hc D0 e0 => by
      cases hb : tb.sub er.c k with
      | false => rfl
      | true =>
        have : cls.contains er.c = true := by
          rw [ol]
          have m : er.c ∈ (List.range tb.nc).filter fun j => tb.sub j k := List.mem_filter.mpr ⟨List.mem_range.mpr (gx.ct.lt _ _ e0).1, hb⟩
          simpa using m
        rw [hc] at this; cases this
    dsimp only
    cases hc : cls.contains er.c with
    | true =>
      rw [if_pos rfl]
      cases ev : er.v with
      | some _ => exact trivial
      | none =>
      refine fun D hD => key D _ takes0 fun cl dx σ' H' g' es s' p' er' => ?_
      subst es
      obtain ⟨D0, e0, rfl, hv⟩ := er'
      have hsub := cont hc D0 e0
      refine ⟨true, by rw [gx.hK, ← hsub]; exact (gx.ct.sb _ _ _ _ e0 ec).1, fun _ a na oe pn hz hvs => ?_, (fun z => nomatch z)⟩
      rw [ev] at hv
      subst hv
      have hh : Held pg X (X.suite a ((a, oe) :: pn)) a er.c D0 := ⟨⟨oe, pn, rfl, hz, hvs⟩, e0⟩
      intro pins s I
      have iN : i < X.N.length := by
        rw [gx.N]
        exact (List.getElem?_eq_some_iff.mp oN).1
      have lenE : i < σ'.length := by
        have := I.len
        rw [List.length_set] at this
        rw [this]
        exact iN
      refine (pss_one (ps_ret (He.ok gx hh hd e' oh))).run pins s _ _ _ I ⟨by rw [List.getElem?_set_self lenE], fun v r => ?_⟩
      exact hD v H' g' s' p' (Rp.mono (fun a o y => by cases y) _ _ r)
    | false =>
      rw [if_neg Bool.false_ne_true]
      refine fun W' tk hW D => key D W' tk fun cl dx σ' H' g' es s' p' er' => ?_
      subst es
      have er2 := er'
      obtain ⟨D0, e0, rfl, hv⟩ := er'
      have hsub := ncont hc D0 e0
      exact ⟨false, by rw [gx.hK, ← hsub]; exact (gx.ct.sb _ _ _ _ e0 ec).1, (fun z => nomatch z), fun _ => hW _ _ _ _ g' s' ⟨p', st.ts⟩ er2⟩
end
end Mi
/-! Mi: all statements: the recursion. -/
namespace Mi
open PySem PySem.Spec PyProof.Rows L2
section
variable {pg : Pg} {tb : Tb} {G : Nat → Option PyData} {C : Cf} {n : Nat}
theorem ton {τ : Option Sg} {s : Ts} (hτ : τ = none ∨ noAsg s = true) (hn : noAsg s = false) : τ = none := hτ.elim id fun z => by rw [hn] at z; cases z
theorem tcs {s : Ts} {ss : List Ts} (z : noAsgs (s :: ss) = true) : noAsg s = true ∧ noAsgs ss = true := by
  rw [noAsgs, Bool.and_eq_true] at z
  exact z
theorem tif {t : Te} {a b : List Ts} (z : noAsg (.iff t a b) = true) : noAsgs a = true ∧ noAsgs b = true := by
  rw [noAsg, Bool.and_eq_true] at z
  exact z
theorem okTs_cons {c : Cd} {s : Ts} {ss : List Ts} {sts : List Stmt} (hf : (∃ i, s = .freeze i) → False) (ok : okTs c tb (s :: ss) sts = true) : ∃ st r, sts = st :: r ∧ okT c tb s st = true ∧ okTs c tb ss r = true := by
  cases sts with
  | nil =>
    cases s <;> first | (exact (hf ⟨_, rfl⟩).elim) | (simp [okTs] at ok)
  | cons st r =>
    refine ⟨st, r, rfl, ?_⟩
    cases s <;> first | (exact (hf ⟨_, rfl⟩).elim) | (simpa [okTs] using ok)
mutual
theorem okT_all (W : Nat) : ∀ (s : Ts) (st' : Stmt) (X : Cx) (c : Cd) (g0 : Gh) (H0 : Hp) (gb : Gh) (τ : Option Sg) (g : Gh) (H : Hp) (h : Sh) (env : En) (σ : Sg), GX X c pg tb G C n → FrX X → (τ = none ∨ noAsg s = true) → okT c tb s st' = true → St pg g0 H0 gb τ g H h env σ → SO pg X g0 H0 gb τ (evS C G W s env h) (fun D => wS X st' D σ H)
  | .doc => by
    intro st' X c g0 H0 gb τ g H h env σ gx fx hτ ok st
    unfold okT at ok
    split at ok
    all_goals first | (cases ok; done) | (rename_i hq; cases hq; done) | skip
    rename_i hq
    cases hq
    exact SO.doc st
  | .asg tg e => by
    intro st' X c g0 H0 gb τ g H h env σ gx fx hτ ok st
    unfold okT at ok
    split at ok
    all_goals first | (cases ok; done) | (rename_i hq; cases hq; done) | skip
    · rename_i hq
      cases hq
      simp only [Bool.and_eq_true] at ok
      obtain ⟨⟨⟨o1, o2⟩, o3⟩, o4⟩ := ok
      exact SO.star (ton hτ rfl) gx st o1 o2 o3 (npk o4)
    · rename_i hq
      cases hq
      simp only [Bool.and_eq_true] at ok
      obtain ⟨⟨⟨o1, o2⟩, o3⟩, o4⟩ := ok
      exact SO.asg (ton hτ rfl) gx st o1 o2 (npk o3) o4
  | .own i l => by
    intro st' X c g0 H0 gb τ g H h env σ gx fx hτ ok st
    unfold okT at ok
    split at ok
    all_goals first | (cases ok; done) | (rename_i hq; cases hq; done) | skip
    rename_i hq
    cases hq
    simp only [Bool.and_eq_true] at ok
    obtain ⟨⟨o1, o2⟩, o3⟩ := ok
    exact SO.own (ton hτ rfl) gx st o1 o2 o3
  | .par is es => by
    intro st' X c g0 H0 gb τ g H h env σ gx fx hτ ok st
    unfold okT at ok
    split at ok
    all_goals first | (cases ok; done) | (rename_i hq; cases hq; done) | skip
    rename_i hq
    cases hq
    simp only [Bool.and_eq_true] at ok
    obtain ⟨o1, o2⟩ := ok
    exact SO.par (ton hτ rfl) gx st o1 o2
  | .aug i op e => by
    intro st' X c g0 H0 gb τ g H h env σ gx fx hτ ok st
    unfold okT at ok
    split at ok
    all_goals first | (cases ok; done) | (rename_i hq; cases hq; done) | skip
    rename_i hq
    cases hq
    simp only [Bool.and_eq_true] at ok
    obtain ⟨⟨⟨⟨o1, o2⟩, o3⟩, o4⟩, o5⟩ := ok
    have o2 := of_decide_eq_true o2
    subst o2
    have o3 : op = .Add ∨ op = .Sub := by
      rw [Bool.or_eq_true] at o3
      exact o3.imp of_decide_eq_true of_decide_eq_true
    exact SO.aug (ton hτ rfl) gx st o1 o3 o4 (npk o5)
  | .setix r i e => by
    intro st' X c g0 H0 gb τ g H h env σ gx fx hτ ok st
    unfold okT at ok
    split at ok
    all_goals first | (cases ok; done) | (rename_i hq; cases hq; done) | skip
    rename_i hq
    cases hq
    simp only [Bool.and_eq_true] at ok
    obtain ⟨⟨⟨⟨⟨⟨⟨o1, o2⟩, o3⟩, o4⟩, o5⟩, o6⟩, o7⟩, o8⟩ := ok
    exact SO.setix gx st o1 o2 o3 o4 o5 (npk o6) (npk o7) (npk o8)
  | .ownix s i e => by
    intro st' X c g0 H0 gb τ g H h env σ gx fx hτ ok st
    unfold okT at ok
    split at ok
    all_goals first | (cases ok; done) | (rename_i hq; cases hq; done) | skip
    rename_i hq
    cases hq
    simp only [Bool.and_eq_true] at ok
    obtain ⟨⟨⟨⟨⟨⟨o1, o2⟩, o3⟩, o4⟩, o5⟩, o6⟩, o7⟩ := ok
    exact SO.ownix gx st o1 o2 o3 o4 o5 (npk o6) (npk o7)
  | .app s e => by
    intro st' X c g0 H0 gb τ g H h env σ gx fx hτ ok st
    unfold okT at ok
    split at ok
    all_goals first | (cases ok; done) | (rename_i hq; cases hq; done) | skip
    rename_i hq
    cases hq
    simp only [Bool.and_eq_true] at ok
    obtain ⟨⟨⟨⟨⟨o1, o2⟩, o3⟩, o4⟩, o5⟩, o6⟩ := ok
    exact SO.app gx st (of_decide_eq_true o1) o2 o3 (npk o4) o5 o6
  | .ext s e => by
    intro st' X c g0 H0 gb τ g H h env σ gx fx hτ ok st
    unfold okT at ok
    split at ok
    all_goals first | (cases ok; done) | (rename_i hq; cases hq; done) | skip
    rename_i hq
    cases hq
    simp only [Bool.and_eq_true] at ok
    obtain ⟨⟨⟨⟨o1, o2⟩, o3⟩, o5⟩, o6⟩ := ok
    exact SO.ext gx st (of_decide_eq_true o1) o2 o3 o5 o6
  | .expr e => by
    intro st' X c g0 H0 gb τ g H h env σ gx fx hτ ok st
    unfold okT at ok
    split at ok
    all_goals first | (cases ok; done) | (rename_i hq; cases hq; done) | skip
    rename_i hq
    cases hq
    simp only [Bool.and_eq_true] at ok
    obtain ⟨o1, o2⟩ := ok
    exact SO.expr gx st o1 o2
  | .ret e => by
    intro st' X c g0 H0 gb τ g H h env σ gx fx hτ ok st
    unfold okT at ok
    split at ok
    all_goals first | (cases ok; done) | (rename_i hq; cases hq; done) | skip
    rename_i hq
    cases hq
    simp only [Bool.and_eq_true] at ok
    obtain ⟨o1, o2⟩ := ok
    exact SO.ret gx st o1 (npk o2)
  | .retN => by
    intro st' X c g0 H0 gb τ g H h env σ gx fx hτ ok st
    unfold okT at ok
    split at ok
    all_goals first | (cases ok; done) | (rename_i hq; cases hq; done) | skip
    rename_i hq
    cases hq
    exact SO.retN st
  | .iff t a b => by
    intro st' X c g0 H0 gb τ g H h env σ gx fx hτ ok st
    unfold okT at ok
    split at ok
    all_goals first | (cases ok; done) | (rename_i hq; cases hq; done) | skip
    rename_i hq
    cases hq
    simp only [Bool.and_eq_true] at ok
    obtain ⟨⟨o1, o2⟩, o3⟩ := ok
    exact SO.iff gx st o1 (fun h1 H1 g1 st1 => okTs_all W a _ X c g0 H0 gb τ g1 H1 h1 env σ gx fx (hτ.imp id fun z => (tif z).1) o2 st1) (fun h1 H1 g1 st1 => okTs_all W b _ X c g0 H0 gb τ g1 H1 h1 env σ gx fx (hτ.imp id fun z => (tif z).2) o3 st1)
  | .for tg k es body => by
    intro st' X c g0 H0 gb τ g H h env σ gx fx hτ ok st
    unfold okT at ok
    split at ok
    all_goals first | (cases ok; done) | (rename_i hq; cases hq; done) | skip
    rename_i hq
    cases hq
    simp only [Bool.and_eq_true] at ok
    obtain ⟨⟨o1, o2⟩, o3⟩ := ok
    exact SO.for (ton hτ rfl) gx st o1 o2 (fun h1 H1 gb1 g1 env1 σ1 st1 => okTs_all W body _ X c g0 H0 gb1 τ g1 H1 h1 env1 σ1 gx fx (.inl (ton hτ rfl)) o3 st1)
  | .while t body => by
    intro st' X c g0 H0 gb τ g H h env σ gx fx hτ ok st
    unfold okT at ok
    split at ok
    all_goals first | (cases ok; done) | (rename_i hq; cases hq; done) | skip
    rename_i hq
    cases hq
    simp only [Bool.and_eq_true] at ok
    obtain ⟨o1, o2⟩ := ok
    exact SO.while gx st o1 (fun h1 H1 gb1 g1 env1 σ1 st1 => okTs_all W body _ X c g0 H0 gb1 τ g1 H1 h1 env1 σ1 gx fx (.inl (ton hτ rfl)) o2 st1)
  | .brk => by
    intro st' X c g0 H0 gb τ g H h env σ gx fx hτ ok st
    unfold okT at ok
    split at ok
    all_goals first | (cases ok; done) | (rename_i hq; cases hq; done) | skip
    rename_i hq
    cases hq
    rw [evS]
    exact fun D hD => wS_of ps_break (hD σ H g st)
  | .cont => by
    intro st' X c g0 H0 gb τ g H h env σ gx fx hτ ok st
    unfold okT at ok
    split at ok
    all_goals first | (cases ok; done) | (rename_i hq; cases hq; done) | skip
    rename_i hq
    cases hq
    rw [evS]
    exact fun D hD => wS_of ps_continue (hD σ H g st)
  | .pass => by
    intro st' X c g0 H0 gb τ g H h env σ gx fx hτ ok st
    unfold okT at ok
    split at ok
    all_goals first | (cases ok; done) | (rename_i hq; cases hq; done) | skip
    rename_i hq
    cases hq
    rw [evS]
    exact fun D hD => wS_of ps_pass (hD σ H g st)
  | .raise k => by
    intro st' X c g0 H0 gb τ g H h env σ gx fx hτ ok st
    unfold okT at ok
    split at ok
    all_goals first | (cases ok; done) | (rename_i hq; cases hq; done) | skip
    rename_i hq
    cases hq
    simp only [Bool.and_eq_true] at ok
    obtain ⟨o1, o2⟩ := ok
    exact SO.raise gx st o1 (of_decide_eq_true o2)
  | .tryE body k cls i hd => by
    intro st' X c g0 H0 gb τ g H h env σ gx fx hτ ok st
    unfold okT at ok
    split at ok
    all_goals first | (cases ok; done) | (rename_i hq; cases hq; done) | skip
    rename_i hq
    cases hq
    simp only [Bool.and_eq_true] at ok
    obtain ⟨⟨⟨⟨⟨⟨⟨o1, o2⟩, o3⟩, o4⟩, o5⟩, o6⟩, o7⟩, o8⟩ := ok
    exact SO.tryE gx fx.hs fx.hf st o3 (of_decide_eq_true o4) (of_decide_eq_true o5) (of_decide_eq_true o6) (of_decide_eq_true o7) o8 (fun X1 gx1 fx1 => okTs_all W body _ X1 c g0 H0 gb (some σ) g H h env σ gx1 fx1 (.inr o2) o1 (st.tau fun s e => by cases e; rfl))
  | .freeze i => by
    intro st' X c g0 H0 gb τ g H h env σ gx fx hτ ok st
    cases st' <;> cases ok
theorem okTs_all (W : Nat) : ∀ (ss : List Ts) (sts : List Stmt) (X : Cx) (c : Cd) (g0 : Gh) (H0 : Hp) (gb : Gh) (τ : Option Sg) (g : Gh) (H : Hp) (h : Sh) (env : En) (σ : Sg), GX X c pg tb G C n → FrX X → (τ = none ∨ noAsgs ss = true) → okTs c tb ss sts = true → St pg g0 H0 gb τ g H h env σ → SO pg X g0 H0 gb τ (evSs C G W ss env h) (fun D => wSs X sts D σ H)
  | [], sts, X, c, g0, H0, gb, τ, g, H, h, env, σ, gx, fx, hτ, ok, st => by
    cases sts with
    | cons _ _ => simp [okTs] at ok
    | nil =>
      rw [evSs]
      exact SO.nx st fun D hd => wSs_of pss_nil hd
  | s :: ss, sts, X, c, g0, H0, gb, τ, g, H, h, env, σ, gx, fx, hτ, ok, st => by
    rw [evSs]
    by_cases hf : ∃ i, s = .freeze i
    · obtain ⟨i, rfl⟩ := hf
      have ok : okTs c tb ss sts = true := by
        cases sts <;> simpa [okTs] using ok
      rw [evS]
      split
      · rename_i xs eo
        obtain ⟨g', st'⟩ := st.freeze eo
        exact okTs_all W ss sts X c g0 H0 gb τ g' H h _ σ gx fx (hτ.imp id fun z => (tcs z).2) ok st'
      · exact trivial
    · obtain ⟨st1, r, rfl, o1, o2⟩ := okTs_cons hf ok
      exact SO.cons (okT_all W s st1 X c g0 H0 gb τ g H h env σ gx fx (hτ.imp id fun z => (tcs z).1) o1 st) fun env' h' σ' H' g' _ st' => okTs_all W ss r X c g0 H0 gb τ g' H' h' env' σ' gx fx (hτ.imp id fun z => (tcs z).2) o2 st'
end
end
end Mi
/-! Mi: defs; the law's call. -/
namespace Mi
open PySem PySem.Spec PyProof.Rows L2

structure DefOk (tb : Tb) (st : Stmt) (F : Fd) (N ps : List Str) : Prop where
  sc : FnScope N ps (defScope st)
  n : F.n = N.length
  p : F.ps = ps.length
  body : okTs ⟨N, defScope st, fun _ => true⟩ tb F.body (defBody st) = true
structure FnK (pg : Pg) (tb : Tb) (Φ : Nat → Option Fd) (i : Nat) (x : Str) (f : Addr) (fd : FuncData) (ps : List Str) : Prop where
  ex : ∃ F st N, Φ i = some F ∧ DefOk tb st F N ps ∧ L2.Fun pg.K x x st f fd ∧ Binds pg.K fd ps []
structure PrOk (pg : Pg) (tb : Tb) (Φ : Nat → Option Fd) (G : Nat → Option PyData) (pz : Nat → List Str) : Prop where
  fn : ∀ i x, tb.fn i = some x → ∃ f fd ps, pg.mg x = some (.ref f) ∧ FnK pg tb Φ i x f fd ps ∧ ps = pz i
  gl : ∀ i x, tb.gl i = some x → ∀ d, G i = some d → ∃ u v, pg.mg x = some u ∧ RelV v u ∧ Rp pg.K (fun _ => none) d v
  bt : ∀ x ∈ bNames, pg.mg x = none
  ct : ClsT pg tb

theorem VlRL.length {K : PySem.W.Frag} {g : Gh} : ∀ {xs : List Vl} {vs : List V}, VlRL K g xs vs → vs.length = xs.length
  | [], _, r => by
    have r : _ = [] := r
    rw [r]; rfl
  | x :: xs, _, ⟨v, t, e, _, r⟩ => by rw [e, List.length_cons, List.length_cons, VlRL.length r]
theorem VlRL.get {K : PySem.W.Frag} {g : Gh} : ∀ {xs : List Vl} {vs : List V} {i : Nat} {x : Vl}, VlRL K g xs vs → xs[i]? = some x → ∃ v, vs[i]? = some v ∧ VlR K g x v
  | [], _, _, _, _, e => by simp at e
  | y :: ys, _, 0, x, ⟨v, t, e1, r1, r2⟩, e => by
    simp at e
    subst e e1
    exact ⟨v, rfl, r1⟩
  | y :: ys, _, i + 1, x, ⟨v, t, e1, r1, r2⟩, e => by
    subst e1
    obtain ⟨u, q1, q2⟩ := VlRL.get (i := i) r2 (by simpa using e)
    exact ⟨u, by simpa using q1, q2⟩
theorem EnR.start {K : PySem.W.Frag} {g : Gh} {H : Hp} {n : Nat} {N : List Str} {xs : List Vl} {vs : List V} (hn : n = N.length) (r : VlRL K g xs vs) : EnR K g H (startE n xs) (L2.start N vs) := by
  have hl := r.length
  have no : ∀ {i : Nat} {ys : List PyData}, (startE n xs)[i]? ≠ some (.own ys) := fun {i ys} e => by
    unfold startE at e
    by_cases hi : i < xs.length
    · rw [List.getElem?_append_left (by simpa using hi), List.getElem?_map] at e
      cases q : xs[i]? with
      | none => rw [q] at e; cases e
      | some z => rw [q] at e; cases e
    · rw [List.getElem?_append_right (by simpa using hi), List.getElem?_replicate] at e
      split at e <;> cases e
  refine ⟨by unfold startE L2.start; simp [hl, hn], fun i s e => ?_, fun i j ys zs a e1 => (no e1).elim⟩
  unfold startE at e
  unfold L2.start
  by_cases hi : i < xs.length
  · rw [List.getElem?_append_left (by simpa using hi), List.getElem?_map] at e
    rw [List.getElem?_append_left (by simpa [hl] using hi), List.getElem?_map]
    cases q : xs[i]? with
    | none => rw [q] at e; cases e
    | some z =>
      rw [q] at e; cases e
      obtain ⟨v, q1, q2⟩ := r.get q
      rw [q1]
      exact ⟨_, rfl, v, rfl, q2⟩
  · rw [List.getElem?_append_right (by simpa using hi), List.getElem?_replicate] at e
    rw [List.getElem?_append_right (by simpa [hl] using hi), List.getElem?_replicate]
    split at e
    · rename_i hk
      cases e
      rw [if_pos (by simp [hl] at hk ⊢; omega)]
      exact ⟨_, rfl, trivial⟩
    · cases e
theorem St.start {pg : Pg} {g : Gh} {H : Hp} {h : Sh} {n : Nat} {N : List Str} {xs : List Vl} {vs : List V} (s : Sim pg.K g h H) (hn : n = N.length) (r : VlRL pg.K g xs vs) : St pg g H g none g H h (startE n xs) (L2.start N vs) := by
  refine ⟨s, ⟨Pres.refl, fun _ _ e => e⟩, EnR.start hn r, fun i ys a e => ?_, fun _ e => nomatch e⟩
  exfalso
  unfold startE at e
  by_cases hi : i < xs.length
  · rw [List.getElem?_append_left (by simpa using hi), List.getElem?_map] at e
    cases q : xs[i]? with
    | none => rw [q] at e; cases e
    | some z => rw [q] at e; cases e
  · rw [List.getElem?_append_right (by simpa using hi), List.getElem?_replicate] at e
    split at e <;> cases e

section
variable {pg : Pg} {tb : Tb} {Φ : Nat → Option Fd} {G : Nat → Option PyData} {W : Nat}
theorem callF_len {k i : Nat} {xs : List Vl} {h : Sh} {F : Fd} (e : Φ i = some F) (q : callF Φ G W k i xs h ≠ .no) : xs.length = F.ps := by
  cases k with
  | zero => exact (q rfl).elim
  | succ k =>
    rw [callF, e] at q
    dsimp only at q
    split at q
    · assumption
    · exact (q rfl).elim
theorem fnG_all {pz : Nat → List Str} (P : PrOk pg tb Φ G pz) : ∀ (k i : Nat) (x : Str) (f : Addr) (fd : FuncData) (ps : List Str), FnK pg tb Φ i x f fd ps → FnG pg k f fd ps (callF Φ G W k i)
  | 0, i, x, f, fd, ps, K => ⟨fun A outer s H args us vs xs h g Q E hr hg e0 hb rv hl sm r q => (show False from q).elim⟩
  | k + 1, i, x, f, fd, ps, K => by
    obtain ⟨F, st, N, eF, D, Fu, bd⟩ := K.ex
    refine ⟨fun A outer s H args us vs xs h g Q E hr hg e0 hb rv hl sm r q => ?_⟩
    obtain ⟨oc, od, kV, doc, pm, an, cdv, ct, osl, rfl, lk, hcd⟩ := Fu.ex
    have S := D.sc
    have KX : pg.K.In s.heap := e0.mod.kin.keeps fun b o e => (e0.bs b o e).1
    have lim : s.heap.NoLimit := e0.mod.nolimit.keeps fun b o e => (e0.bs b o e).1
    have hkind : ∀ y ∈ ps.zip us, (defScope st).names.lookup y.1 = some .local ∨ ((defScope st).names.lookup y.1 = some .cell ∧ ((cellsFrom (s.heap.objs.size + 1) (defScope st).names []).lookup y.1).isSome = true) := fun y hy =>
      (S.par y.1 (List.of_mem_zip (a := y.1) (b := y.2) hy).1).imp id fun q => ⟨q, PySem.W.cellsFrom_some _ _ _ (.inl q)⟩
    refine codeAny_call_function hr.depth (KX _ _ lk) rfl S.co S.gen rfl (PySem.W.codeRec_of KX hcd) (hb _ _ _ _ ?_)
    refine wpAny_newFunctionEnv_cells S.kind hkind fun env he s1 hx => ?_
    subst he
    refine ⟨lim.keeps hx.toInCall.keep, codeAny_func ?_⟩
    have I := inv_start (CX := L2.CX pg.P pg.w) (qual := x) (E := E) S hr.hd e0 hl rv hx
    have gx : GX (cxOf (L2.CX pg.P pg.w) pg.P pg.w pg.K pg.mg pg.base N x (defScope st) f cdv A outer s H E) ⟨N, defScope st, fun _ => true⟩ pg tb G (callF Φ G W k) k :=
      ⟨rfl, rfl, rfl, rfl, rfl, rfl, S.nd, rfl, S.kind, rfl, rfl, passes_of rfl, hr.deeper _, hg, P.gl, P.bt, P.ct, fun j y ej => by
        obtain ⟨f', fd', ps', em, K', _⟩ := P.fn j y ej
        obtain ⟨F', st', N', eF', D', Fu', bd'⟩ := K'.ex
        exact ⟨f', fd', ps', em, Fu'.kp, bd', fnG_all P k j y f' fd' ps' K', fun xs h hn => (callF_len eF' hn).trans D'.p⟩⟩
    have so := okTs_all W F.body (defBody st) _ _ g H g none g H h (startE F.n xs) (L2.start N vs) gx ⟨rfl, rfl⟩ (.inl rfl) D.body (St.start sm D.n r)
    have hps : xs.length = F.ps := by rw [D.p, ← hl, r.length]
    have eC : callF Φ G W (k + 1) i xs h = (evSs (callF Φ G W k) G W F.body (startE F.n xs) h).bind fun o h1 => match o with
        | .rt v => .ok v h1
        | .nx _ => .ok (.d .none) h1
        | _ => .no := by
      rw [callF, eF]
      dsimp only
      rw [if_pos hps]
      all_goals rfl
    rw [eC] at q
    have D0 : Ends := { nx := fun _ H' => Q .non H', rt := Q }
    have main : wSs (cxOf (L2.CX pg.P pg.w) pg.P pg.w pg.K pg.mg pg.base N x (defScope st) f cdv A outer s H E) (defBody st) { nx := fun _ H' => Q .non H', rt := Q } (L2.start N vs) H := by
      cases hr2 : evSs (callF Φ G W k) G W F.body (startE F.n xs) h with
      | no => rw [hr2] at q; exact (show False from q).elim
      | ex e h' =>
        rw [hr2] at q so
        exact so (fun cls d _ H' => E cls d H') (takes_of rfl rfl rfl rfl) (fun cls dx σ' H' g' s' p' er => q cls dx H' g' s' p'.pz.pre er) _
      | ok o h' =>
        rw [hr2] at q so
        cases o with
        | rt v => exact so _ fun v' H' g' s' p' rv' => q v' H' g' s' p'.pre rv'
        | nx e => exact so _ fun σ' H' g' st' => q .non H' g' st'.sim st'.pre (by simp only [VlR, Rp])
        | bk e => exact (show False from q).elim
        | ct e => exact (show False from q).elim
    refine wpAny_mono (main [] s1 I) (fun fl s' hs => ?_) fun e s' hs => hs
    cases fl with
    | ret u =>
      obtain ⟨v, σ', H', J, rv', q'⟩ := hs
      exact ⟨v, H', J.os, J.bare, J.base, J.hok, rv', q'⟩
    | next =>
      obtain ⟨σ', H', J, q'⟩ := hs
      exact ⟨.non, H', J.os, J.bare, J.base, J.hok, rfl, q'⟩
    | brk => exact (hs.choose_spec.choose_spec.2 : False).elim
    | cont => exact (hs.choose_spec.choose_spec.2 : False).elim
end
end Mi
/-! Mi: the law's call. -/
namespace Mi
open PySem PySem.Spec PyProof.Rows L2

/-- the heap in which the script alone is told, or nothing -/
def scrH (a : Addr) (u : Option HO) : Hp := fun b => if b = a then u else none
theorem scrH_at {a : Addr} {u : Option HO} : scrH a u a = u := if_pos rfl
theorem scrH_ne {a b : Addr} {u : Option HO} (h : b ≠ a) : scrH a u b = none := if_neg h
theorem nomem {b : Addr} (m : b ∈ ([] : List Addr)) : False := by cases m
theorem law_go {pg : Pg} {mb : Str → Option Value} {k : Nat} {fa a : Addr} {fd : FuncData} {x : Str} {F : List Vl → Sh → R Vl} {s₁ : Shared} {vs : List Value} {ns : List Int} {u : Option HO} {hq : Sh}
    (KX : pg.K.In s₁.heap) (hns : s₁.heap.Ns mainGlobals pg.mg) (hb : s₁.heap.Ns builtinsNs mb) (hbb : ∀ x : Str, x ≠ "__name__" → mb x = bootBuiltins x) (hlim : s₁.heap.NoLimit) (hg : s₁.gens = #[])
    (ha : s₁.heap.get? a = some { cls := .type "list", data := .seq vs.toArray }) (hr : Room k callerA) (hba : pg.base = hidT s₁.heap (scrH a u)) (hbind : BindsTo s₁ fd ⟨[.ref a], []⟩ [(x, .ref a)])
    (hu : u = none ∨ (u = some (.frz { cls := .type "list", data := .seq vs.toArray } (.lst (ns.map V.int))) ∧ pg.K.lookup a = none)) (hS : SqL pg.K (scrH a u) a (ns.map V.int)) (hok : HOk pg.P pg.w (scrH a u) s₁.heap)
    (P : pg.K.In (hidT s₁.heap (scrH a u)) → FnG pg k fa fd [x] F) (hF : F [.scr ns] [] = .ok (.d (.bool true)) hq) :
    codeAny (model pg.P pg.w) callerA (.call (.ref fa) ⟨[.ref a], []⟩) (fun r s' => r = .ok (.ret (.bool true)) ∧ OldK s₁.heap s'.heap ∧ s'.os = s₁.os ∧ AllBare s'.gens) s₁ := by
  have free : ∀ b, b ≠ a → scrH a u b = none := fun b => scrH_ne
  have isA : ∀ {b : Addr} {z : HO}, scrH a u b = some z → b = a := fun {b z} e => by
    by_cases h : b = a
    · exact h
    · rw [scrH_ne h] at e; cases e
  have ns_free : ∀ {b : Addr} {o : Obj} {es : Array DictEntry} {ep : Nat}, s₁.heap.get? b = some o → o.data = .dict es ep → scrH a u b = none := fun {b o es ep} e d => by
    by_cases h : b = a
    · subst h
      rw [ha] at e; cases e; cases d
    · exact free b h
  have nsK : ∀ {b : Addr} {m : Str → Option Value}, s₁.heap.Ns b m → (hidT s₁.heap (scrH a u)).Ns b m := fun ⟨o, es, ep, e, d, r⟩ => ⟨o, es, ep, hidT_get e (ns_free e d), d, r⟩
  have kIn : pg.K.In (hidT s₁.heap (scrH a u)) := fun b o e => hidT_get (KX b o e) (by
    by_cases h : b = a
    · subst h
      rcases hu with hu | ⟨_, hk⟩
      · rw [scrH_at, hu]
      · rw [hk] at e; cases e
    · exact free b h)
  have e0 : Env0 pg.P pg.w pg.K pg.mg pg.base callerA [] s₁ (scrH a u) := by
    rw [hba]
    exact ⟨rfl, ⟨kIn, nsK hns, ⟨mb, nsK hb, hbb⟩, hlim.elim fun mc q => ⟨mc, nsK q.1, q.2⟩⟩, fun b o e => of_hidT e, Nat.le_of_eq (hidT_size _ _), trivial, fun b m => (nomem m).elim, hok, .of_eq hg⟩
  have sm : Sim pg.K ⟨scrH a u, []⟩ [] (scrH a u) := ⟨fun _ _ e => e, List.nodup_nil, rfl, fun _ m => (nomem m).elim, fun _ _ e => (show False by simp at e).elim⟩
  refine codeAny_mono ((P kIn).run callerA [] s₁ (scrH a u) ⟨[.ref a], []⟩ [.ref a] [.ref a] [.scr ns] [] ⟨scrH a u, []⟩ (fun v H' => v = .bl true ∧ ∀ z, u = some z → H' a = some z) (fun _ _ _ => False) hr rfl e0 hbind (.cons rfl .nil) rfl sm ⟨.ref a, [], rfl, ⟨a, rfl, hS⟩, rfl⟩ ?_) fun r s' hz => ?_
  · rw [hF]
    refine fun v H' g' s' p' r' => ⟨by simpa only [VlR, Rp] using r', fun z e => s'.sub _ _ (p'.z _ _ ?_)⟩
    show scrH a u a = some z
    rw [scrH_at]; exact e
  · cases r with
    | error e => exact (noCX hz).elim
    | ok fl =>
      cases fl with
      | ret w =>
        obtain ⟨v, H', os, bare, un, hok', rv, rfl, hA⟩ := hz
        obtain rfl : w = Value.bool true := rv
        refine ⟨rfl, OldK.of_keep fun b o e => ?_, os, bare⟩
        by_cases h : b = a
        · subst h
          rcases hu with hu | ⟨hu, _⟩
          · exact un.keep b o e (by rw [scrH_at, hu]) (fun m => nomem m) (fun m => nomem m)
          · obtain ⟨q, _⟩ := hok' b _ (hA _ hu)
            rw [ha] at e; cases e
            exact q
        · exact un.keep b o e (free b h) (fun m => nomem m) (fun m => nomem m)
      | next => exact (show False from hz).elim
      | brk => exact (show False from hz).elim
      | cont => exact (show False from hz).elim
/-- the end over k_head: F gives the written part, the function object, the reader's program -/
theorem walk_me {l : PySem.W.OpenLaw} {n k i : Nat} {q : Program} {loose : List Str} {XP : (Str → Option Value) → Heap → Prop} {YP : World → Heap → Prop} {d : DefRec} {x : Str} {fld : Nat → Option Str}
    {tb : Tb} {Φ : Nat → Option Fd} {G : Nat → Option PyData} {W : Nat} {pz : Nat → List Str} (hn : l.most = some n) (hn2 : n ≤ sizeLine) (hdf : d.params.defaults = []) (hr : Room k callerA) (hi : tb.fn i = some d.name)
    (F : ∀ (w : World) (mg : Str → Option Value) (h : Heap), YP w h → h.Ns mainGlobals mg → ∃ (K : PySem.W.Frag) (cl : Nat → Option Addr), K.In h ∧ ∀ base : Heap, K.In base → PrOk ⟨l.prog, w, K, mg, base, cl, fld⟩ tb Φ G pz)
    (hx : pz i = [x])
    (law : ∀ ns : List Int, ns.length ≤ n → ∃ hq, callF Φ G W k i [.scr ns] [] = .ok (.d (.bool true)) hq) : PySem.W.WalkO q loose XP YP l.row.toRowW d [] (fun f vs => PySem.call f vs) := by
  refine Att.attach_call hn hdf fun w s₀ s₁ mg mb fa o pm cd doc a vs ns Gr Y ho hd hcd hmg hobj hints hlen hg => ?_
  obtain ⟨K, cl, KX, hP⟩ := F w mg _ Y Gr.T.g
  obtain ⟨hq, hlaw⟩ := law ns hlen
  have rv := vals_ints hints
  have lenV := hints.length
  have go : ∀ (u : Option HO), (u = none ∨ (u = some (.frz { cls := .type "list", data := .seq vs.toArray } (.lst (ns.map V.int))) ∧ K.lookup a = none)) → SqL K (scrH a u) a (ns.map V.int) → HOk l.prog w (scrH a u) s₁.heap →
      codeAny (model l.prog w) callerA (.call (.ref fa) ⟨[.ref a], []⟩) (fun r s' => r = .ok (.ret (.bool true)) ∧ OldK s₁.heap s'.heap ∧ s'.os = s₁.os ∧ AllBare s'.gens) s₁ := fun u hu hS hok => by
    have kb : K.In (hidT s₁.heap (scrH a u)) := fun b o e => hidT_get (KX b o e) (by
      by_cases h : b = a
      · subst h
        rcases hu with hu | ⟨_, hk⟩
        · rw [scrH_at, hu]
        · rw [hk] at e; cases e
      · exact scrH_ne h)
    have P := hP (hidT s₁.heap (scrH a u)) kb
    obtain ⟨f, fd, ps, em, fk, eps⟩ := P.fn i d.name hi
    have em' : mg d.name = some (.ref f) := em
    rw [hmg] at em'
    cases em'
    rw [hx] at eps
    subst eps
    have bd := fk.ex.choose_spec.choose_spec.choose_spec.2.2.2
    exact law_go (pg := ⟨l.prog, w, K, mg, hidT s₁.heap (scrH a u), cl, fld⟩) (mb := mb) (k := k) (x := x) (F := callF Φ G W k i) KX Gr.T.g Gr.T.b Gr.T.builtins Gr.T.nolimit hg hobj hr rfl (by simpa using bd s₁ [.ref a] KX rfl) hu hS hok (fun _ => fnG_all P k i d.name fa fd [x] fk) hlaw
  have sz : ns.length ≤ sizeLine := Nat.le_trans hlen hn2
  cases hk : K.lookup a with
  | some o =>
    have e := KX a o hk
    rw [hobj] at e
    cases e
    refine go none (.inl rfl) (.inr ⟨_, vs.toArray, _, hk, rfl, rfl, rfl, by rw [List.size_toArray, lenV]; exact sz, by simpa using rv⟩) fun b z e => ?_
    unfold scrH at e
    split at e <;> cases e
  | none =>
    refine go _ (.inr ⟨rfl, hk⟩) (.inl (.inr ⟨_, scrH_at⟩)) fun b z e => ?_
    by_cases h : b = a
    · subst h
      rw [scrH_at] at e
      cases e
      exact ⟨hobj, by rw [List.length_map]; exact sz, vs, _, rv, hobj⟩
    · rw [scrH_ne h] at e; cases e
end Mi
/-! Mi: what stands in the written part. -/
namespace Mi
open PySem PySem.Spec PyProof.Rows L2

structure DefE where
  x : Str
  st : Stmt
  F : Fd
  N : List Str
  ps : List Str
def fnT (l : List DefE) (i : Nat) : Option Str := (l[i]?).map (·.x)
def ΦT (l : List DefE) (i : Nat) : Option Fd := (l[i]?).map (·.F)
def pzT (l : List DefE) (i : Nat) : List Str := ((l[i]?).map (·.ps)).getD []
def glT (l : List (Str × PyData)) (i : Nat) : Option Str := (l[i]?).map (·.1)
def GT (l : List (Str × PyData)) (i : Nat) : Option PyData := (l[i]?).map (·.2)
theorem allN {p : DefE → Prop} : ∀ D ∈ ([] : List DefE), p D := fun _ m => (List.not_mem_nil m).elim
theorem allC {p : DefE → Prop} {a : DefE} {l : List DefE} (h : p a) (r : ∀ D ∈ l, p D) : ∀ D ∈ a :: l, p D := fun D m => (List.mem_cons.mp m).elim (fun e => e ▸ h) (r D)
/-- a def's own text: h tells how its arguments bind -/
structure DefC (tb : Tb) (D : DefE) : Prop where
  ok : DefOk tb D.st D.F D.N D.ps
  bd : ∀ (kV doc pm : Value) (an : Option Addr) (cdv ct : Value) (us : List Value), us.length = D.ps.length → bindArgs (PySem.W.fnOf D.x D.x (defArgs D.st) (defBody D.st) (defScope D.st) .none kV doc pm an cdv ct) ⟨us, []⟩ = pure (D.ps.zip us)
structure DK (K : PySem.W.Frag) (x : Str) (st : Stmt) : Prop where
  ex : ∃ (f : Addr) (fd : FuncData), PySem.W.nsIn K mainGlobals x = some (some (.ref f)) ∧ L2.Fun K x x st f fd
theorem DK.of {K : PySem.W.Frag} {x : Str} {st : Stmt} {f : Addr} {oc kV doc pm cdv ct : Value} {od an : Option Addr} {osl : Array (Option Value)} (a : PySem.W.nsIn K mainGlobals x = some (some (.ref f)))
    (l : K.lookup f = some ⟨oc, od, .func (PySem.W.fnOf x x (defArgs st) (defBody st) (defScope st) .none kV doc pm an cdv ct), osl⟩) (c : PySem.W.codeIn K cdv x = true) (k : PySem.W.keepIn K (.ref f) = true) : DK K x st := ⟨f, _, a, fun_mk l c k⟩
mutual
def relB (K : PySem.W.Frag) : PyData → Value → Bool
  | .none, .none => true
  | .bool a, .bool b => a == b
  | .int a, .int b _ => a == b
  | .str a, .str b _ => a == b
  | .tuple xs, .ref a => (match K.lookup a with
    | some ⟨.type t, _, .seq its _, _⟩ => decide (t = "tuple") && decide (its.size ≤ 1000) && relBs K xs its.toList
    | _ => false)
  | _, _ => false
def relBs (K : PySem.W.Frag) : List PyData → List Value → Bool
  | [], [] => true
  | x :: xs, v :: vs => relB K x v && relBs K xs vs
  | _, _ => false
end
mutual
theorem relB_ok {K : PySem.W.Frag} : ∀ (d : PyData) (u : Value), relB K d u = true → ∃ v, RelV v u ∧ Rp K (fun _ => none) d v
  | .none, u, h => by
    cases u <;> simp only [relB] at h <;> first | exact ⟨.non, rfl, by simp only [Rp]⟩ | cases h
  | .bool b, u, h => by
    cases u <;> simp only [relB] at h <;> first | (cases eq_of_beq h; exact ⟨.bl b, rfl, by simp only [Rp]⟩) | cases h
  | .int i, u, h => by
    cases u <;> simp only [relB] at h <;> first | (cases eq_of_beq h; exact ⟨.int i, ⟨_, rfl⟩, by simp only [Rp]⟩) | cases h
  | .str x, u, h => by
    cases u <;> simp only [relB] at h <;> first | (cases eq_of_beq h; exact ⟨.str x, ⟨_, rfl⟩, by simp only [Rp]⟩) | cases h
  | .list xs, u, h => by cases u <;> simp only [relB] at h <;> cases h
  | .dict xs, u, h => by cases u <;> simp only [relB] at h <;> cases h
  | .tuple xs, u, h => by
    cases u <;> simp only [relB] at h <;> try cases h
    rename_i a
    split at h
    · rename_i t _ its nn _ hk
      simp only [Bool.and_eq_true] at h
      obtain ⟨⟨h1, h2⟩, h3⟩ := h
      obtain ⟨vs, r1, r2⟩ := relBs_ok xs its.toList h3
      refine ⟨.ref a, rfl, ?_⟩
      simp only [Rp]
      exact ⟨a, vs, rfl, .inr ⟨_, its, nn, hk, by rw [of_decide_eq_true h1], rfl, Nat.le_of_lt (small1000 (of_decide_eq_true h2)), r1⟩, r2⟩
    · cases h
theorem relBs_ok {K : PySem.W.Frag} : ∀ (ds : List PyData) (us : List Value), relBs K ds us = true → ∃ vs, Vals vs us ∧ RpL K (fun _ => none) ds vs
  | [], us, h => by
    cases us with
    | nil => exact ⟨[], .nil, RpL.nil⟩
    | cons _ _ => simp [relBs] at h
  | x :: xs, us, h => by
    cases us with
    | nil => simp [relBs] at h
    | cons u us =>
      simp only [relBs, Bool.and_eq_true] at h
      obtain ⟨v, r1, r2⟩ := relB_ok x u h.1
      obtain ⟨vs, r3, r4⟩ := relBs_ok xs us h.2
      exact ⟨v :: vs, .cons r1 r3, RpL.cons r2 r4⟩
end
def gB (K : PySem.W.Frag) (p : Str × PyData) : Bool := match PySem.W.nsIn K mainGlobals p.1 with
  | some (some v) => relB K p.2 v
  | _ => false
def zB (K : PySem.W.Frag) (x : Str) : Bool := match PySem.W.nsIn K mainGlobals x with
  | some none => true
  | _ => false
theorem prOk {P : Program} {w : World} {K : PySem.W.Frag} {mg : Str → Option Value} {base h : Heap} {cl : Nat → Option Addr} {fld : Nat → Option Str} {ds : List DefE} {gs : List (Str × PyData)} {tb : Tb} (X : K.In h) (N : h.Ns mainGlobals mg) (hfn : tb.fn = fnT ds) (hgl : tb.gl = glT gs) (ct : ClsT ⟨P, w, K, mg, base, cl, fld⟩ tb)
    (hd : ∀ D ∈ ds, DefC tb D) (hk : ∀ D ∈ ds, DK K D.x D.st) (hg : gs.all (gB K) = true) (hz : bNames.all (zB K) = true) : PrOk ⟨P, w, K, mg, base, cl, fld⟩ tb (ΦT ds) (GT gs) (pzT ds) := by
  refine ⟨fun i x e => ?_, fun i x e d eg => ?_, fun x hx => ?_, ct⟩
  · rw [hfn] at e
    have e : (ds[i]?).map (·.x) = some x := e
    cases q : ds[i]? with
    | none => rw [q] at e; cases e
    | some D =>
      rw [q] at e; cases e
      have m := List.mem_of_getElem? q
      obtain ⟨f, fd, a, Fu⟩ := (hk D m).ex
      have C := hd D m
      exact ⟨f, fd, D.ps, PySem.W.mg_of X N a, ⟨D.F, D.st, D.N, by rw [ΦT, q]; rfl, C.ok, Fu, Fu.binds C.bd⟩, by rw [pzT, q]; rfl⟩
  · rw [hgl] at e
    have e : (gs[i]?).map (·.1) = some x := e
    have eg : (gs[i]?).map (·.2) = some d := eg
    cases q : gs[i]? with
    | none => rw [q] at e; cases e
    | some p =>
      rw [q] at e eg; cases e; cases eg
      have := List.all_eq_true.mp hg p (List.mem_of_getElem? q)
      unfold gB at this
      split at this
      · rename_i v ev
        obtain ⟨v', r1, r2⟩ := relB_ok _ _ this
        exact ⟨v, v', PySem.W.mg_of X N ev, r1, r2⟩
      · cases this
  · have := List.all_eq_true.mp hz x hx
    unfold zB at this
    split at this
    · rename_i ev
      exact PySem.W.mg_none_of X N ev
    · cases this

/-! ### classes -/
def clA (K : PySem.W.Frag) (cs : List Str) (i : Nat) : Option Addr := match cs[i]? with
  | some x => (match PySem.W.nsIn K mainGlobals x with
    | some (some (.ref C)) => some C
    | _ => none)
  | none => none
def bmVE : List Value := [.type "ValueError", .type "Exception", .type "BaseException", .type "object"]
def okC (K : PySem.W.Frag) (C : Addr) : Bool :=
  PySem.W.keepIn K (.ref C) && PySem.W.excIn K C bmVE "ValueError.__new__" && (PySem.W.subIn K (.ref C) (.type "BaseException") == some true) && (PySem.W.typeIn K (.ref C) == some (.type "type")) &&
  (PySem.W.findIn K (.ref C) "__getattribute__" == some (some (.builtin "BaseException.__getattribute__"))) && (PySem.W.findIn K (.ref C) "__getattr__" == some none) && PySem.W.hasDictIn K C && (PySem.W.findIn K (.ref C) "__class__" == some (some (.builtin "object.__class__"))) &&
  (PySem.W.specialIn K (.builtin "object.__class__") "__get__" == some (some (.builtin "getset_descriptor.__get__"))) && (PySem.W.takesIn K (.builtin "object.__class__") == some true) && (PySem.W.mroIn K C (.type "object") == some true)
def okC2 (K : PySem.W.Frag) (C D : Addr) (b : Bool) : Bool := (PySem.W.exmOne K (.ref C) (.ref D) == some b) && (PySem.W.kitOne K (.ref C) (.ref D) == some b)
/-- the sub-table's rows: which classes stand below class i -/
def subT (l : List (List Nat)) (i j : Nat) : Bool := ((l[i]?).getD []).contains j
def okCs' (K : PySem.W.Frag) (cs : List Str) (l : List (List Nat)) : Bool :=
  (List.range cs.length).all fun i => match clA K cs i with
    | some C => okC K C && (List.range cs.length).all fun j => match clA K cs j with
      | some D => okC2 K C D (subT l i j)
      | none => false
    | none => false
theorem beqO {a b : Option Bool} (h : (a == b) = true) : a = b := eq_of_beq h
theorem okC_ok {K : PySem.W.Frag} {C : Addr} (h : okC K C = true) : ClsK K C := by
  unfold okC at h
  simp only [Bool.and_eq_true] at h
  obtain ⟨⟨⟨⟨⟨⟨⟨⟨⟨⟨h1, h2⟩, h3⟩, h4⟩, h5⟩, h6⟩, h7⟩, h8⟩, h9⟩, h10⟩, h11⟩ := h
  exact ⟨h1, h2, eq_of_beq h3, eq_of_beq h4, ⟨eq_of_beq h5, eq_of_beq h6, eq_of_beq h3, h7, eq_of_beq h8, eq_of_beq h9, eq_of_beq h10, eq_of_beq h11⟩⟩
theorem clsT {P : Program} {w : World} {K : PySem.W.Frag} {mg : Str → Option Value} {base h : Heap} {fld : Nat → Option Str} {cs : List Str} {l : List (List Nat)} {tb : Tb} (X : K.In h) (N : h.Ns mainGlobals mg) (h1 : tb.cs = fun i => cs[i]?) (h2 : tb.sub = subT l) (h3 : tb.nc = cs.length)
    (ok : okCs' K cs l = true) : ClsT ⟨P, w, K, mg, base, clA K cs, fld⟩ tb := by
  have one : ∀ i C, clA K cs i = some C → i < cs.length ∧ ClsK K C ∧ ∀ j D, clA K cs j = some D → okC2 K C D (subT l i j) = true := fun i C e => by
    have hi : i < cs.length := by
      unfold clA at e
      cases q : cs[i]? with
      | none => rw [q] at e; cases e
      | some x => exact (List.getElem?_eq_some_iff.mp q).1
    have a := List.all_eq_true.mp ok i (List.mem_range.mpr hi)
    rw [e] at a
    simp only [Bool.and_eq_true] at a
    refine ⟨hi, okC_ok a.1, fun j D ej => ?_⟩
    have hj : j < cs.length := by
      unfold clA at ej
      cases q : cs[j]? with
      | none => rw [q] at ej; cases ej
      | some x => exact (List.getElem?_eq_some_iff.mp q).1
    have b := List.all_eq_true.mp a.2 j (List.mem_range.mpr hj)
    rw [ej] at b
    exact b
  refine ⟨fun i x e => ?_, fun i j C D e1 e2 => ?_, fun i C e => ?_⟩
  · rw [h1] at e
    have e : cs[i]? = some x := e
    have hi := (List.getElem?_eq_some_iff.mp e).1
    have a := List.all_eq_true.mp ok i (List.mem_range.mpr hi)
    cases q : clA K cs i with
    | none => rw [q] at a; cases a
    | some C =>
      refine ⟨C, q, ?_, (one i C q).2.1⟩
      unfold clA at q
      rw [e] at q
      dsimp only at q
      split at q
      · rename_i C' en
        cases q
        exact PySem.W.mg_of X N en
      · cases q
  · have b := (one i C e1).2.2 j D e2
    unfold okC2 at b
    rw [Bool.and_eq_true] at b
    rw [h2]
    exact ⟨eq_of_beq b.1, eq_of_beq b.2⟩
  · obtain ⟨a, b, _⟩ := one i C e
    exact ⟨by rw [h3]; exact a, b.xc⟩
end Mi
/-! Mi: running the reader by hand. -/
namespace Mi
open PySem
def fin (r : R Out) : R Vl := r.bind fun o h1 => match o with
  | .rt v => .ok v h1
  | .nx _ => .ok (.d .none) h1
  | _ => .no
section
variable {Φ : Nat → Option Fd} {G : Nat → Option PyData} {W k i : Nat} {xs : List Vl} {h : Sh} {F : Fd} {C : Cf} {env : En} {α β : Type}
theorem call_at (e : Φ i = some F) (l : xs.length = F.ps) : callF Φ G W (k + 1) i xs h = fin (evSs (callF Φ G W k) G W F.body (startE F.n xs) h) := by
  rw [callF, e]
  dsimp only
  rw [if_pos l]
  rfl
theorem b_ok {a : α} {f : α → Sh → R β} : (R.ok a h).bind f = f a h := rfl
theorem b_ex {x : Er} {f : α → Sh → R β} : (R.ex x h : R α).bind f = .ex x h := rfl
theorem b_no {f : α → Sh → R β} : (R.no : R α).bind f = .no := rfl
theorem t_ok {x : Vl} : tru (.ok x h) = match truV x with
  | some b => .ok b h
  | none => .no := rfl
theorem t_bl {b : Bool} : tru (.ok (.d (.bool b)) h) = .ok b h := rfl
theorem l_some {x : PyData} : lift (some x) h = .ok (.d x) h := rfl
theorem fin_rt {v : Vl} : fin (.ok (.rt v) h) = .ok v h := rfl
theorem fin_nx {e : En} : fin (.ok (.nx e) h) = .ok (.d .none) h := rfl
theorem fin_ex {e : Er} : fin (.ex e h) = .ex e h := rfl
/-- an if, by its test -/
theorem s_if {t : Te} {a b r : List Ts} {v : Bool} {h1 : Sh} (e : tru (evE C G t env h) = .ok v h1) : evSs C G W (.iff t a b :: r) env h = (if v then evSs C G W a env h1 else evSs C G W b env h1).bind fun o h2 => match o with
    | .nx e => evSs C G W r e h2
    | o => .ok o h2 := by
  rw [evSs, evS, e]
  rfl
theorem s_ifT {t : Te} {a b r : List Ts} {h1 : Sh} {v : Vl} {h2 : Sh} (e : tru (evE C G t env h) = .ok true h1) (q : evSs C G W a env h1 = .ok (.rt v) h2) : evSs C G W (.iff t a b :: r) env h = .ok (.rt v) h2 := by
  rw [s_if e, if_pos rfl, q]; rfl
theorem s_ifX {t : Te} {a b r : List Ts} {h1 : Sh} {x : Er} {h2 : Sh} (e : tru (evE C G t env h) = .ok true h1) (q : evSs C G W a env h1 = .ex x h2) : evSs C G W (.iff t a b :: r) env h = .ex x h2 := by
  rw [s_if e, if_pos rfl, q]; rfl
theorem s_ifF {t : Te} {a r : List Ts} {h1 : Sh} (e : tru (evE C G t env h) = .ok false h1) : evSs C G W (.iff t a [] :: r) env h = evSs C G W r env h1 := by
  rw [s_if e, if_neg Bool.false_ne_true]; rfl
theorem s_ifN {t : Te} {a b r : List Ts} {h1 h2 : Sh} {env' : En} (e : tru (evE C G t env h) = .ok true h1) (q : evSs C G W a env h1 = .ok (.nx env') h2) : evSs C G W (.iff t a b :: r) env h = evSs C G W r env' h2 := by
  rw [s_if e, if_pos rfl, q]; rfl
theorem s_ifE {t : Te} {a b r : List Ts} {h1 h2 : Sh} {env' : En} (e : tru (evE C G t env h) = .ok false h1) (q : evSs C G W b env h1 = .ok (.nx env') h2) : evSs C G W (.iff t a b :: r) env h = evSs C G W r env' h2 := by
  rw [s_if e, if_neg Bool.false_ne_true, q]; rfl
theorem s_ret {e : Te} {r : List Ts} {v : Vl} {h1 : Sh} (q : evE C G e env h = .ok v h1) : evSs C G W (.ret e :: r) env h = .ok (.rt v) h1 := by
  rw [evSs, evS, q]; rfl
theorem s_retX {e : Te} {r : List Ts} {x : Er} {h1 : Sh} (q : evE C G e env h = .ex x h1) : evSs C G W (.ret e :: r) env h = .ex x h1 := by
  rw [evSs, evS, q]; rfl
theorem s_asg {tg : Tg} {e : Te} {r : List Ts} {v : Vl} {h1 : Sh} {env' : En} (q : evE C G e env h = .ok v h1) (b : bindTg tg v env = some env') : evSs C G W (.asg tg e :: r) env h = evSs C G W r env' h1 := by
  rw [evSs, evS, q]
  simp only [b_ok, b]
theorem s_own {j : Nat} {l : Tl} {r : List Ts} {v : List PyData} {h1 : Sh} (q : evL C G l env h = .ok v h1) : evSs C G W (.own j l :: r) env h = evSs C G W r (env.set j (.own v)) h1 := by
  rw [evSs, evS, q]; rfl
theorem s_par {is : List Nat} {es : List Tm} {r : List Ts} {v : List Sl} {h1 : Sh} {env' : En} (q : evXs C G es env h = .ok v h1) (b : bindAll is v env = some env') : evSs C G W (.par is es :: r) env h = evSs C G W r env' h1 := by
  rw [evSs, evS, q]
  simp only [b_ok, b]
theorem s_step {s : Ts} {r : List Ts} {h1 : Sh} {env' : En} (q : evS C G W s env h = .ok (.nx env') h1) : evSs C G W (s :: r) env h = evSs C G W r env' h1 := by
  rw [evSs, q]; rfl
theorem s_end {s : Ts} {r : List Ts} {h1 : Sh} {v : Vl} (q : evS C G W s env h = .ok (.rt v) h1) : evSs C G W (s :: r) env h = .ok (.rt v) h1 := by
  rw [evSs, q]; rfl
theorem e_call {f : Nat} {es : List Te} {xs : List Vl} {h1 : Sh} (q : evEs C G es env h = .ok xs h1) : evE C G (.call f es) env h = C f xs h1 := by
  rw [evE, q]; rfl
theorem es_nil : evEs C G [] env h = .ok [] h := by rw [evEs]
theorem es_cons {e : Te} {r : List Te} {x : Vl} {xs : List Vl} {h1 h2 : Sh} (q : evE C G e env h = .ok x h1) (q2 : evEs C G r env h1 = .ok xs h2) : evEs C G (e :: r) env h = .ok (x :: xs) h2 := by
  rw [evEs, q]
  simp only [b_ok, q2]
theorem e_tup {es : List Te} {xs : List Vl} {dd : List PyData} {h1 : Sh} (q : evEs C G es env h = .ok xs h1) (q2 : datL xs = some dd) (l : dd.length ≤ SZ) : evE C G (.tup es) env h = .ok (.d (.tuple dd)) h1 := by
  rw [evE, q]
  simp only [b_ok, q2]
  exact if_pos l
theorem e_disp {es : List Te} {xs : List Vl} {dd : List PyData} {h1 : Sh} (q : evEs C G es env h = .ok xs h1) (q2 : datL xs = some dd) (l : dd.length ≤ SZ) : evE C G (.ofL (.disp es)) env h = .ok (.d (.list dd)) h1 := by
  rw [evE, evL, q]
  simp only [b_ok, q2]
  rw [if_pos l]
  rfl
theorem e_bi {b : BI} {es : List Te} {xs : List Vl} {dd : List PyData} {z : PyData} {h1 : Sh} (q : evEs C G es env h = .ok xs h1) (q2 : datL xs = some dd) (e : biD b dd = some z) : evE C G (.bi b es) env h = .ok (.d z) h1 := by
  rw [evE, q]
  simp only [b_ok, q2, e, l_some]
theorem e_and1 {a : Te} : evE C G (.and [a]) env h = evE C G a env h := by rw [evE, evAnd]
theorem e_or1 {a : Te} : evE C G (.or [a]) env h = evE C G a env h := by rw [evE, evOr]
theorem e_andB {a b : Te} {r : List Te} {v w : Bool} (q : evE C G a env h = .ok (.d (.bool v)) h) (q2 : v = true → evE C G (.and (b :: r)) env h = .ok (.d (.bool w)) h) : evE C G (.and (a :: b :: r)) env h = .ok (.d (.bool (v && w))) h := by
  rw [evE, evAnd_cons2, q]
  cases v with
  | false => rfl
  | true =>
    have := q2 rfl
    rw [evE] at this
    exact this
theorem e_not {e : Te} {v : Bool} {h1 : Sh} (q : tru (evE C G e env h) = .ok v h1) : evE C G (.not e) env h = .ok (.d (.bool (!v))) h1 := by
  rw [evE]
  cases r : evE C G e env h with
  | no => rw [r] at q; cases q
  | ex _ _ => rw [r] at q; cases q
  | ok x h2 =>
    rw [r, t_ok] at q
    cases tv : truV x with
    | none => rw [tv] at q; cases q
    | some b => rw [tv] at q; cases q; simp only [b_ok, tv]
/-- a list made by a comprehension -/
theorem e_comp {elt : Te} {tg : Tg} {kk : It} {es : List Te} {xs : List Vl} {ds ys : List PyData} {h1 h2 : Sh} (q : evEs C G es env h = .ok xs h1) (i : evIt kk xs = some (ds.map .d)) (l : ds.length ≤ SZ) (c : compLoop tg (evC C G []) (evE C G elt) (wipeE tg.names env) (ds.map .d) h1 = .ok ys h2) :
    evE C G (.ofL (.comp elt tg kk es [])) env h = .ok (.d (.list ys)) h2 := by
  rw [evE, evL, q]
  simp only [b_ok, i]
  rw [if_pos (by rw [List.length_map]; exact l), c]
  rfl
theorem l_comp {elt : Te} {tg : Tg} {kk : It} {es : List Te} {xs : List Vl} {ds ys : List PyData} {h1 h2 : Sh} (q : evEs C G es env h = .ok xs h1) (i : evIt kk xs = some (ds.map .d)) (l : ds.length ≤ SZ) (c : compLoop tg (evC C G []) (evE C G elt) (wipeE tg.names env) (ds.map .d) h1 = .ok ys h2) :
    evL C G (.comp elt tg kk es []) env h = .ok ys h2 := by
  rw [evL, q]
  simp only [b_ok, i]
  rw [if_pos (by rw [List.length_map]; exact l)]
  exact c
theorem fin_end {r : R Out} {v : Vl} (q : r = .ok (.rt v) h) : fin r = .ok v h := by rw [q]; rfl
theorem fl_cons {body : En → Sh → R Out} {tg : Tg} {x : Vl} {xs : List Vl} {env' : En} (e : bindTg tg x env = some env') : forLoop body tg (x :: xs) env h = (body env' h).bind fun o h1 => match o with
      | .nx e => forLoop body tg xs e h1
      | .ct e => forLoop body tg xs e h1
      | .bk e => .ok (.nx e) h1
      | .rt v => .ok (.rt v) h1 := by
  rw [forLoop, e]
  all_goals rfl
theorem s_for {tg : Tg} {kk : It} {es : List Te} {body r : List Ts} {xs items : List Vl} {h1 h2 : Sh} {env' : En} (q : evEs C G es env h = .ok xs h1) (i : evIt kk xs = some items) (f : forLoop (evSs C G W body) tg items env h1 = .ok (.nx env') h2) :
    evSs C G W (.for tg kk es body :: r) env h = evSs C G W r env' h2 := by
  rw [evSs, evS, q]
  simp only [b_ok, i, f]
theorem s_forR {tg : Tg} {kk : It} {es : List Te} {body r : List Ts} {xs items : List Vl} {h1 h2 : Sh} {v : Vl} (q : evEs C G es env h = .ok xs h1) (i : evIt kk xs = some items) (f : forLoop (evSs C G W body) tg items env h1 = .ok (.rt v) h2) :
    evSs C G W (.for tg kk es body :: r) env h = .ok (.rt v) h2 := by
  rw [evSs, evS, q]
  simp only [b_ok, i, f]
theorem s_while {t : Te} {body r : List Ts} {h2 : Sh} {env' : En} (f : whLoop (fun e g => tru (evE C G t e g)) (evSs C G W body) W env h = .ok (.nx env') h2) : evSs C G W (.while t body :: r) env h = evSs C G W r env' h2 := by
  rw [evSs, evS, f]
  rfl
theorem s_expr {e : Te} {r : List Ts} {v : Vl} {h1 : Sh} (q : evE C G e env h = .ok v h1) : evSs C G W (.expr e :: r) env h = evSs C G W r env h1 := by
  rw [evSs, evS, q]; rfl
theorem s_exprX {e : Te} {r : List Ts} {x : Er} {h1 : Sh} (q : evE C G e env h = .ex x h1) : evSs C G W (.expr e :: r) env h = .ex x h1 := by
  rw [evSs, evS, q]; rfl
/-- a comprehension without a condition, one value an item, no heap -/
theorem comp_map {tg : Tg} {elt : En → Sh → R Vl} {f : PyData → PyData} : ∀ (xs : List PyData) {h : Sh}, (∀ x ∈ xs, ∃ env', bindTg tg (.d x) env = some env' ∧ elt env' h = .ok (.d (f x)) h) →
    compLoop tg (evC C G []) elt env (xs.map .d) h = .ok (xs.map f) h
  | [], h, _ => rfl
  | x :: xs, h, q => by
    obtain ⟨env', e1, e2⟩ := q x List.mem_cons_self
    have ih := comp_map xs fun y m => q y (List.mem_cons_of_mem _ m)
    have e0 : evC C G [] env' h = .ok true h := by rw [evC]
    rw [List.map_cons, compLoop, e1]
    simp only [e0, noEx, b_ok, if_true, e2, ih, List.map_cons]
/-- .. by pairs -/
theorem comp_zip {tg : Tg} {elt : En → Sh → R Vl} : ∀ (zs : List (PyData × PyData)) {h : Sh}, (∀ z ∈ zs, ∃ env', bindTg tg (.d z.1) env = some env' ∧ elt env' h = .ok (.d z.2) h) →
    compLoop tg (evC C G []) elt env ((zs.map (·.1)).map .d) h = .ok (zs.map (·.2)) h
  | [], h, _ => rfl
  | z :: zs, h, q => by
    obtain ⟨env', e1, e2⟩ := q z List.mem_cons_self
    have ih := comp_zip zs fun y m => q y (List.mem_cons_of_mem _ m)
    have e0 : evC C G [] env' h = .ok true h := by rw [evC]
    rw [List.map_cons, List.map_cons, compLoop, e1]
    simp only [e0, noEx, b_ok, if_true, e2, ih, List.map_cons]
theorem t_cmp {op : CmpOp} {a b : Te} {x y : PyData} {v : Bool} {h1 h2 : Sh} (e1 : evE C G a env h = .ok (.d x) h1) (e2 : evE C G b env h1 = .ok (.d y) h2) (e : cmpD op x y = some v) : tru (evE C G (.cmp op a b) env h) = .ok v h2 := by
  rw [evE, e1]
  simp only [b_ok, e2, e, Option.map, l_some, t_bl]
theorem e_cmp {op : CmpOp} {a b : Te} {x y : PyData} {v : Bool} {h1 h2 : Sh} (e1 : evE C G a env h = .ok (.d x) h1) (e2 : evE C G b env h1 = .ok (.d y) h2) (e : cmpD op x y = some v) : evE C G (.cmp op a b) env h = .ok (.d (.bool v)) h2 := by
  rw [evE, e1]
  simp only [b_ok, e2, e, Option.map, l_some]
theorem e_bin {op : Operator} {a b : Te} {x y z : PyData} {h1 h2 : Sh} (e1 : evE C G a env h = .ok (.d x) h1) (e2 : evE C G b env h1 = .ok (.d y) h2) (e : binD op x y = some z) : evE C G (.bin op a b) env h = .ok (.d z) h2 := by
  rw [evE, e1]
  simp only [b_ok, e2, e, l_some]
theorem t_chain {o1 o2 : CmpOp} {a b d : Te} {x y z : PyData} {v w : Bool} (e1 : evE C G a env h = .ok (.d x) h) (e2 : evE C G b env h = .ok (.d y) h) (e3 : evE C G d env h = .ok (.d z) h) (c1 : cmpD o1 x y = some v) (c2 : cmpD o2 y z = some w) :
    tru (evE C G (.chain o1 o2 a b d) env h) = .ok (v && w) h := by
  rw [evE, e1]
  simp only [b_ok, e2, c1]
  cases v with
  | true => simp only [e3, b_ok, c2, Option.map, l_some, t_bl, Bool.true_and]
  | false => rfl
theorem t_b {e : Te} {v : Bool} {h1 : Sh} (q : evE C G e env h = .ok (.d (.bool v)) h1) : tru (evE C G e env h) = .ok v h1 := by rw [q]; rfl
theorem t_not {e : Te} {v : Bool} {h1 : Sh} (q : tru (evE C G e env h) = .ok v h1) : tru (evE C G (.not e) env h) = .ok (!v) h1 := by
  rw [evE]
  cases r : evE C G e env h with
  | no => rw [r] at q; cases q
  | ex _ _ => rw [r] at q; cases q
  | ok x h2 =>
    rw [r, t_ok] at q
    cases tv : truV x with
    | none => rw [tv] at q; cases q
    | some b => rw [tv] at q; cases q; simp only [b_ok, tv]; rfl
theorem t_nT {e : Te} {h1 : Sh} (q : tru (evE C G e env h) = .ok false h1) : tru (evE C G (.not e) env h) = .ok true h1 := t_not q
theorem t_nF {e : Te} {h1 : Sh} (q : tru (evE C G e env h) = .ok true h1) : tru (evE C G (.not e) env h) = .ok false h1 := t_not q
theorem e_ix {a i : Te} {x z : PyData} {j : Int} {h1 h2 : Sh} (e1 : evE C G a env h = .ok (.d x) h1) (e2 : evE C G i env h1 = .ok (.d (.int j)) h2) (e : ixD x j = some z) : evE C G (.ix a i) env h = .ok (.d z) h2 := by
  rw [evE, e1]
  simp only [b_ok, e2]
  show lift (ixD x j) h2 = _
  rw [e]; rfl
theorem e_isi {a : Te} {t : Ty} {x : PyData} {h1 : Sh} (e1 : evE C G a env h = .ok (.d x) h1) : evE C G (.isi a [t]) env h = .ok (.d (.bool (isT t x))) h1 := by
  rw [evE, e1]
  simp only [b_ok, List.any_cons, List.any_nil, Bool.or_false]
theorem t_isi {a : Te} {t : Ty} {x : PyData} {h1 : Sh} {v : Bool} (e1 : evE C G a env h = .ok (.d x) h1) (e : isT t x = v) : tru (evE C G (.isi a [t]) env h) = .ok v h1 := by
  rw [e_isi e1, e]; rfl
theorem e_glob {g : Nat} {x : PyData} (e : G g = some x) : evE C G (.glob g) env h = .ok (.d x) h := by
  rw [evE, e]; rfl
theorem e_ite {t a b : Te} {v : Bool} {h1 : Sh} (q : tru (evE C G t env h) = .ok v h1) : evE C G (.ite t a b) env h = if v = true then evE C G a env h1 else evE C G b env h1 := by
  rw [evE]
  cases r : evE C G t env h with
  | no => rw [r] at q; cases q
  | ex _ _ => rw [r] at q; cases q
  | ok x h2 =>
    rw [r, t_ok] at q
    cases tv : truV x with
    | none => rw [tv] at q; cases q
    | some b => rw [tv] at q; cases q; simp only [b_ok, tv]; cases v <;> rfl
theorem t_orT {a b : Te} {r : List Te} {h1 : Sh} (q : tru (evE C G a env h) = .ok true h1) : tru (evE C G (.or (a :: b :: r)) env h) = .ok true h1 := by
  rw [evE, evOr_cons2]
  cases e : evE C G a env h with
  | no => rw [e] at q; cases q
  | ex _ _ => rw [e] at q; cases q
  | ok x h2 =>
    rw [e, t_ok] at q
    cases tv : truV x with
    | none => rw [tv] at q; cases q
    | some v => rw [tv] at q; cases q; simp only [b_ok, tv]; exact tru_ok_of tv
theorem t_orF {a b : Te} {r : List Te} {h1 : Sh} (q : tru (evE C G a env h) = .ok false h1) : tru (evE C G (.or (a :: b :: r)) env h) = tru (evE C G (.or (b :: r)) env h1) := by
  rw [evE, evOr_cons2, evE]
  cases e : evE C G a env h with
  | no => rw [e] at q; cases q
  | ex _ _ => rw [e] at q; cases q
  | ok x h2 =>
    rw [e, t_ok] at q
    cases tv : truV x with
    | none => rw [tv] at q; cases q
    | some v => rw [tv] at q; cases q; simp only [b_ok, tv]
theorem t_or1 {a : Te} : tru (evE C G (.or [a]) env h) = tru (evE C G a env h) := by rw [evE, evOr]
theorem t_andF {a b : Te} {r : List Te} {h1 : Sh} (q : tru (evE C G a env h) = .ok false h1) : tru (evE C G (.and (a :: b :: r)) env h) = .ok false h1 := by
  rw [evE, evAnd_cons2]
  cases e : evE C G a env h with
  | no => rw [e] at q; cases q
  | ex _ _ => rw [e] at q; cases q
  | ok x h2 =>
    rw [e, t_ok] at q
    cases tv : truV x with
    | none => rw [tv] at q; cases q
    | some v => rw [tv] at q; cases q; simp only [b_ok, tv]; exact tru_ok_of tv
theorem t_andT {a b : Te} {r : List Te} {h1 : Sh} (q : tru (evE C G a env h) = .ok true h1) : tru (evE C G (.and (a :: b :: r)) env h) = tru (evE C G (.and (b :: r)) env h1) := by
  rw [evE, evAnd_cons2, evE]
  cases e : evE C G a env h with
  | no => rw [e] at q; cases q
  | ex _ _ => rw [e] at q; cases q
  | ok x h2 =>
    rw [e, t_ok] at q
    cases tv : truV x with
    | none => rw [tv] at q; cases q
    | some v => rw [tv] at q; cases q; simp only [b_ok, tv]
theorem t_and1 {a : Te} : tru (evE C G (.and [a]) env h) = tru (evE C G a env h) := by rw [evE, evAnd]
/-- ors of tests that all have a value -/
theorem t_or {a b : Te} {r : List Te} {v w : Bool} (q : tru (evE C G a env h) = .ok v h) (q2 : v = false → tru (evE C G (.or (b :: r)) env h) = .ok w h) : tru (evE C G (.or (a :: b :: r)) env h) = .ok (v || w) h := by
  cases v with
  | true => exact t_orT q
  | false => exact (t_orF q).trans (q2 rfl)
theorem t_and {a b : Te} {r : List Te} {v w : Bool} (q : tru (evE C G a env h) = .ok v h) (q2 : v = true → tru (evE C G (.and (b :: r)) env h) = .ok w h) : tru (evE C G (.and (a :: b :: r)) env h) = .ok (v && w) h := by
  cases v with
  | false => exact t_andF q
  | true => exact (t_andT q).trans (q2 rfl)
end
end Mi
/-! Mi: data operators in closed forms. -/
namespace Mi
open PySem
theorem eqv_str {a b : Str} : PyData.eqv (.str a) (.str b) = decide (a = b) := by
  unfold PyData.eqv
  rw [Bool.eq_iff_iff]
  simp
theorem in_str {w : Str} {ys : List Str} : inD (.str w) (ys.map .str) = some (decide (w ∈ ys)) := by
  have hf : (ys.map PyData.str).all flatD = true := by
    rw [List.all_eq_true]
    intro x m
    obtain ⟨y, _, rfl⟩ := List.mem_map.mp m
    rfl
  unfold inD
  rw [hf]
  show some ((ys.map PyData.str).any fun y => PyData.eqv y (.str w)) = _
  congr 1
  clear hf
  induction ys with
  | nil => rfl
  | cons y ys ih =>
    rw [List.map_cons, List.any_cons, ih, eqv_str]
    by_cases e : y = w
    · subst e
      rw [decide_eq_true rfl, Bool.true_or, decide_eq_true List.mem_cons_self]
    · rw [decide_eq_false e, Bool.false_or]
      by_cases m : w ∈ ys
      · rw [decide_eq_true m, decide_eq_true (List.mem_cons_of_mem _ m)]
      · rw [decide_eq_false m, decide_eq_false fun z => (List.mem_cons.mp z).elim (fun q => e q.symm) m]
theorem eq_str {a b : Str} : eqD (.str a) (.str b) = some (decide (a = b)) := by
  show some _ = _
  rw [eqv_str]
theorem eq_int {a b : Int} : eqD (.int a) (.int b) = some (decide (a = b)) := by
  show some (PyData.eqv _ _) = _
  unfold PyData.eqv
  congr 1
theorem cmp_eq {a b : PyData} : cmpD .Eq a b = eqD a b := rfl
theorem cmp_ne {a b : PyData} : cmpD .NotEq a b = (eqD a b).map (!·) := rfl
theorem cmp_inT {a : PyData} {ys : List PyData} : cmpD .In a (.tuple ys) = inD a ys := rfl
theorem at_k {α : Type} {xs : List α} {k : Nat} {x : α} (e : xs[k]? = some x) : L2.atI xs k = some x := by
  have h := (List.getElem?_eq_some_iff.mp e).1
  unfold L2.atI L2.ixN
  rw [if_pos (by omega), if_pos (by omega)]
  exact e
theorem at_0 {α : Type} {x : α} {xs : List α} : L2.atI (x :: xs) 0 = some x := at_k (k := 0) rfl
theorem at_1 {α : Type} {x y : α} {xs : List α} : L2.atI (x :: y :: xs) 1 = some y := at_k (k := 1) rfl
theorem at_2 {α : Type} {x y z : α} {xs : List α} : L2.atI (x :: y :: z :: xs) 2 = some z := at_k (k := 2) rfl
theorem at_3 {α : Type} {x y z w : α} {xs : List α} : L2.atI (x :: y :: z :: w :: xs) 3 = some w := at_k (k := 3) rfl
theorem at_last {α : Type} {xs : List α} {x : α} : L2.atI (xs ++ [x]) (-1) = some x := by
  unfold L2.atI L2.ixN
  rw [if_neg (by decide), if_pos (by rw [List.length_append, List.length_singleton]; omega), List.length_append, List.length_singleton]
  show (xs ++ [x])[((-1 : Int) + ((xs.length + 1 : Nat) : Int)).toNat]? = some x
  rw [show ((-1 : Int) + ((xs.length + 1 : Nat) : Int)).toNat = xs.length by omega]
  simp
theorem ix_0 {x : PyData} {xs : List PyData} : ixD (.tuple (x :: xs)) 0 = some x := at_0
theorem ix_1 {x y : PyData} {xs : List PyData} : ixD (.tuple (x :: y :: xs)) 1 = some y := at_1
theorem ix_2 {x y z : PyData} {xs : List PyData} : ixD (.tuple (x :: y :: z :: xs)) 2 = some z := at_2
theorem ix_3 {x y z w : PyData} {xs : List PyData} : ixD (.tuple (x :: y :: z :: w :: xs)) 3 = some w := at_3
theorem len_eq {xs : List PyData} {m : Nat} : eqD (.int xs.length) (.int m) = some (decide (xs.length = m)) := by
  rw [eq_int]
  congr 1
  rw [decide_eq_decide]
  exact Int.ofNat_inj
end Mi
namespace Tx
open PySem PySem.Spec PyProof.Rows Mi
def top (i : Nat) : Stmt := PySem.Challenge.pw_roomprofile_k84_jobs_and_values_of_expre.main.body.getD i (.Pass ⟨0, 0, 0, 0⟩)
/-! 0 is_integer ['value'] -/
def f0 : Fd := ⟨1, 1, [.ret (.and [.isi (.var 0) [.int], .not (.isi (.var 0) [.bool])])]⟩
def e0 : DefE := ⟨"is_integer", top 5, f0, ["value"], ["value"]⟩
/-! 1 is_between ['value', 'low', 'high'] -/
def f1 : Fd := ⟨3, 3, [.ret (.and [.call 0 [.var 0], .chain .LtE .LtE (.var 1) (.var 0) (.var 2)])]⟩
def e1 : DefE := ⟨"is_between", top 6, f1, ["value", "low", "high"], ["value", "low", "high"]⟩
/-! 2 is_node ['job'] -/
def f2 : Fd := ⟨1, 1, [.ret (.isi (.var 0) [.tuple])]⟩
def e2 : DefE := ⟨"is_node", top 15, f2, ["job"], ["job"]⟩
/-! 3 measured ['value', 'depth'] -/
def f3 : Fd := ⟨2, 2, [.iff (.cmp .Eq (.var 1) (.cst (.int 0))) [.ret (.cst .none)] [], .iff (.call 1 [.var 0, .bin .Sub (.cst (.int 0)) (.glob 0), .glob 0]) [.ret (.tup [.cst (.int 1), .cst (.int 1)])] [], .iff (.or [.not (.isi (.var 0) [.tuple]), .cmp .Eq (.var 0) (.tup []), .not (.isi (.ix (.var 0) (.cst (.int 0))) [.str])]) [.ret (.cst .none)] [], .iff (.and [.cmp .In (.ix (.var 0) (.cst (.int 0))) (.glob 5), .cmp .Eq (.bi .len [.var 0]) (.cst (.int 2))]) [.ret (.call 4 [.ix (.var 0) (.cst (.int 1)), .var 1])] [], .iff (.and [.cmp .In (.ix (.var 0) (.cst (.int 0))) (.glob 6), .cmp .Eq (.bi .len [.var 0]) (.cst (.int 3))]) [.ret (.call 5 [.ix (.var 0) (.cst (.int 1)), .ix (.var 0) (.cst (.int 2)), .var 1])] [], .ret (.cst .none)]⟩
def e3 : DefE := ⟨"measured", top 16, f3, ["value", "depth"], ["value", "depth"]⟩
/-! 4 measured_parts ['parts', 'depth', 'part', 'nodes', 'steps', 'sizes'] -/
def f4 : Fd := ⟨2, 6, [.iff (.or [.not (.isi (.var 0) [.tuple]), .cmp .Gt (.bi .len [.var 0]) (.glob 2)]) [.ret (.cst .none)] [], .asg (.t [3, 4]) (.tup [.cst (.int 1), .cst (.int 0)]), .for (.n 2) .seq [.var 0] [.asg (.n 5) (.call 3 [.var 2, .bin .Sub (.var 1) (.cst (.int 1))]), .iff (.cmp .Is (.var 5) (.cst .none)) [.ret (.cst .none)] [], .par [3, 4] [.e (.bin .Add (.var 3) (.ix (.var 5) (.cst (.int 0)))), .e (.bin .Add (.var 4) (.ix (.var 5) (.cst (.int 1))))], .iff (.or [.cmp .Gt (.var 3) (.glob 3), .cmp .Gt (.var 4) (.glob 1)]) [.ret (.cst .none)] []], .ret (.tup [.var 3, .var 4])]⟩
def e4 : DefE := ⟨"measured_parts", top 17, f4, ["parts", "depth", "part", "nodes", "steps", "sizes"], ["parts", "depth"]⟩
/-! 5 measured_multiple ['count', 'inner', 'depth', 'sizes'] -/
def f5 : Fd := ⟨3, 4, [.iff (.not (.call 1 [.var 0, .cst (.int 0), .glob 1])) [.ret (.cst .none)] [], .asg (.n 3) (.call 3 [.var 1, .bin .Sub (.var 2) (.cst (.int 1))]), .iff (.or [.cmp .Is (.var 3) (.cst .none), .cmp .Eq (.ix (.var 3) (.cst (.int 0))) (.glob 3), .cmp .Gt (.bin .Mult (.var 0) (.ix (.var 3) (.cst (.int 1)))) (.glob 1)]) [.ret (.cst .none)] [], .ret (.tup [.bin .Add (.cst (.int 1)) (.ix (.var 3) (.cst (.int 0))), .bin .Mult (.var 0) (.ix (.var 3) (.cst (.int 1)))])]⟩
def e5 : DefE := ⟨"measured_multiple", top 18, f5, ["count", "inner", "depth", "sizes"], ["count", "inner", "depth"]⟩
/-! 6 is_job ['value'] -/
def f6 : Fd := ⟨1, 1, [.ret (.cmp .IsNot (.call 3 [.var 0, .glob 4]) (.cst .none))]⟩
def e6 : DefE := ⟨"is_job", top 19, f6, ["value"], ["value"]⟩
/-! 7 check_job ['job'] -/
def f7 : Fd := ⟨1, 1, [.iff (.not (.call 6 [.var 0])) [.raise 1] []]⟩
def e7 : DefE := ⟨"check_job", top 20, f7, ["job"], ["job"]⟩
/-! 8 extent_by ['job', 'total', 'low', 'part'] -/
def f8 : Fd := ⟨1, 4, [.iff (.not (.call 2 [.var 0])) [.ret (.tup [.var 0, .bi .min [.cst (.int 0), .var 0]])] [], .iff (.cmp .In (.ix (.var 0) (.cst (.int 0))) (.glob 5)) [.ret (.call 9 [.ix (.var 0) (.cst (.int 0)), .ofL (.comp (.call 8 [.var 3]) (.n 3) .seq [.ix (.var 0) (.cst (.int 1))] [])])] [], .asg (.t [1, 2]) (.call 8 [.ix (.var 0) (.cst (.int 2))]), .iff (.cmp .Eq (.ix (.var 0) (.cst (.int 1))) (.cst (.int 0))) [.ret (.tup [.cst (.int 0), .cst (.int 0)])] [], .iff (.cmp .Eq (.ix (.var 0) (.cst (.int 0))) (.cst (.str "copies"))) [.ret (.tup [.bin .Mult (.ix (.var 0) (.cst (.int 1))) (.var 1), .bin .Mult (.ix (.var 0) (.cst (.int 1))) (.var 2)])] [], .ret (.tup [.bin .Mult (.ix (.var 0) (.cst (.int 1))) (.var 1), .bin .Add (.var 2) (.bi .min [.cst (.int 0), .bin .Mult (.bin .Sub (.ix (.var 0) (.cst (.int 1))) (.cst (.int 1))) (.var 1)])])]⟩
def e8 : DefE := ⟨"extent_by", top 21, f8, ["job", "total", "low", "part"], ["job"]⟩
/-! 9 extent_of_parts ['word', 'extents', 'total', 'low', 'more', 'lower'] -/
def f9 : Fd := ⟨2, 6, [.asg (.t [2, 3]) (.tup [.cst (.int 0), .cst (.int 0)]), .for (.t [4, 5]) .seq [.var 1] [.asg (.n 3) (.ite (.cmp .Eq (.var 0) (.cst (.str "par"))) (.bin .Add (.var 3) (.var 5)) (.bi .min [.var 3, .bin .Add (.var 2) (.var 5)])), .aug 2 .Add (.var 4)], .ret (.tup [.var 2, .var 3])]⟩
def e9 : DefE := ⟨"extent_of_parts", top 22, f9, ["word", "extents", "total", "low", "more", "lower"], ["word", "extents"]⟩
/-! 10 net_by ['job'] -/
def f10 : Fd := ⟨1, 1, [.ret (.ix (.call 8 [.var 0]) (.cst (.int 0)))]⟩
def e10 : DefE := ⟨"net_by", top 23, f10, ["job"], ["job"]⟩
/-! 11 net ['job'] -/
def f11 : Fd := ⟨1, 1, [.expr (.call 7 [.var 0]), .ret (.call 10 [.var 0])]⟩
def e11 : DefE := ⟨"net", top 24, f11, ["job"], ["job"]⟩
/-! 12 is_operation ['value'] -/
def f12 : Fd := ⟨1, 1, [.ret (.and [.isi (.var 0) [.str], .cmp .In (.var 0) (.glob 9)])]⟩
def e12 : DefE := ⟨"is_operation", top 30, f12, ["value"], ["value"]⟩
/-! 13 is_size ['value'] -/
def f13 : Fd := ⟨1, 1, [.ret (.call 1 [.var 0, .cst (.int 0), .glob 8])]⟩
def e13 : DefE := ⟨"is_size", top 31, f13, ["value"], ["value"]⟩
/-! 14 node_total ['job', 'inners', 'part'] -/
def f14 : Fd := ⟨1, 3, [.iff (.not (.isi (.var 0) [.tuple])) [.ret (.cst (.int 1))] [], .asg (.n 1) (.ite (.cmp .In (.ix (.var 0) (.cst (.int 0))) (.tup [.cst (.str "seq"), .cst (.str "par")])) (.ix (.var 0) (.cst (.int 1))) (.sliceF (.var 0) (.cst (.int 2)))), .ret (.bin .Add (.cst (.int 1)) (.bi .sum [.ofL (.comp (.call 14 [.var 2]) (.n 2) .seq [.var 1] [])]))]⟩
def e14 : DefE := ⟨"node_total", top 32, f14, ["job", "inners", "part"], ["job"]⟩
/-! 15 apply_job ['parts', 'depth', 'part', 'jobs', 'nodes', 'total', 'job'] -/
def f15 : Fd := ⟨2, 7, [.iff (.or [.cmp .NotEq (.bi .len [.var 0]) (.cst (.int 3)), .not (.call 12 [.ix (.var 0) (.cst (.int 0))]), .not (.call 13 [.ix (.var 0) (.cst (.int 2))]), .not (.isi (.ix (.var 0) (.cst (.int 1))) [.tuple])]) [.ret (.cst .none)] [], .par [3, 4, 5] [.l (.disp []), .e (.cst (.int 0)), .e (.cst (.int 0))], .iff (.not (.chain .LtE .LtE (.cst (.int 1)) (.bi .len [.ix (.var 0) (.cst (.int 1))]) (.glob 2))) [.ret (.cst .none)] [], .for (.n 2) .seq [.ix (.var 0) (.cst (.int 1))] [.asg (.n 6) (.call 18 [.var 2, .bin .Sub (.var 1) (.cst (.int 1))]), .iff (.or [.cmp .Is (.var 6) (.cst .none), .cmp .Gt (.var 4) (.glob 3)]) [.ret (.cst .none)] [], .app 3 (.var 6), .aug 4 .Add (.call 14 [.var 6]), .aug 5 .Add (.ix (.var 2) (.neg (.cst (.int 1))))], .ret (.tup [.cst (.str "seq"), .tup [.tup [.cst (.str "par"), .bi .tuple [.peek 3]], .ix (.var 0) (.cst (.int 2)), .bin .Sub (.cst (.int 0)) (.var 5)]])]⟩
def e15 : DefE := ⟨"apply_job", top 33, f15, ["parts", "depth", "part", "jobs", "nodes", "total", "job"], ["parts", "depth"]⟩
/-! 16 many_job ['word', 'parts', 'depth', 'job', 'operation', 'count', 'part', 'size'] -/
def f16 : Fd := ⟨3, 8, [.iff (.or [.cmp .NotEq (.bi .len [.var 1]) (.cst (.int 4)), .not (.call 12 [.ix (.var 1) (.cst (.int 0))]), .not (.call 1 [.ix (.var 1) (.cst (.int 1)), .cst (.int 1), .glob 1])]) [.ret (.cst .none)] [], .asg (.t [4, 5, 6, 7]) (.var 1), .asg (.n 3) (.ite (.call 13 [.var 7]) (.call 18 [.var 6, .bin .Sub (.var 2) (.cst (.int 1))]) (.cst .none)), .iff (.cmp .Is (.var 3) (.cst .none)) [.ret (.cst .none)] [], .iff (.cmp .Eq (.var 0) (.cst (.str "each"))) [.ret (.tup [.cst (.str "seq"), .tup [.tup [.cst (.str "copies"), .var 5, .var 3], .var 7, .bin .Sub (.cst (.int 0)) (.bin .Mult (.var 5) (.ix (.var 6) (.neg (.cst (.int 1)))))]])] [], .ret (.tup [.cst (.str "seq"), .tup [.var 7, .tup [.cst (.str "repeat"), .var 5, .tup [.cst (.str "seq"), .tup [.var 3, .bin .Sub (.cst (.int 0)) (.ix (.var 6) (.neg (.cst (.int 1))))]]]]])]⟩
def e16 : DefE := ⟨"many_job", top 34, f16, ["word", "parts", "depth", "job", "operation", "count", "part", "size"], ["word", "parts", "depth"]⟩
/-! 17 load_job ['parts'] -/
def f17 : Fd := ⟨1, 1, [.ret (.ite (.and [.cmp .Eq (.bi .len [.var 0]) (.cst (.int 2)), .call 1 [.ix (.var 0) (.cst (.int 0)), .cst (.int 0), .bin .Sub (.glob 7) (.cst (.int 1))], .call 13 [.ix (.var 0) (.cst (.int 1))]]) (.ix (.var 0) (.cst (.int 1))) (.cst .none))]⟩
def e17 : DefE := ⟨"load_job", top 35, f17, ["parts"], ["parts"]⟩
/-! 18 job_or_none ['value', 'depth', 'word', 'parts'] -/
def f18 : Fd := ⟨2, 4, [.iff (.or [.cmp .Eq (.var 1) (.cst (.int 0)), .not (.isi (.var 0) [.tuple]), .cmp .Eq (.var 0) (.tup []), .not (.isi (.ix (.var 0) (.cst (.int 0))) [.str])]) [.ret (.cst .none)] [], .asg (.st [2] 3) (.var 0), .iff (.cmp .Eq (.var 2) (.cst (.str "load"))) [.ret (.call 17 [.var 3])] [], .iff (.cmp .Eq (.var 2) (.cst (.str "apply"))) [.ret (.call 15 [.var 3, .var 1])] [], .ret (.ite (.cmp .In (.var 2) (.glob 10)) (.call 16 [.var 2, .var 3, .var 1]) (.cst .none))]⟩
def e18 : DefE := ⟨"job_or_none", top 36, f18, ["value", "depth", "word", "parts"], ["value", "depth"]⟩
/-! 19 is_expression ['value', 'job'] -/
def f19 : Fd := ⟨1, 2, [.asg (.n 1) (.call 18 [.var 0, .glob 4]), .ret (.and [.cmp .IsNot (.var 1) (.cst .none), .call 6 [.var 1]])]⟩
def e19 : DefE := ⟨"is_expression", top 37, f19, ["value", "job"], ["value"]⟩
/-! 20 check_expression ['expression'] -/
def f20 : Fd := ⟨1, 1, [.iff (.not (.call 19 [.var 0])) [.raise 2] []]⟩
def e20 : DefE := ⟨"check_expression", top 38, f20, ["expression"], ["expression"]⟩
/-! 21 job_by ['expression'] -/
def f21 : Fd := ⟨1, 1, [.ret (.call 18 [.var 0, .glob 4])]⟩
def e21 : DefE := ⟨"job_by", top 39, f21, ["expression"], ["expression"]⟩
/-! 22 power ['base', 'exponent', 'found'] -/
def f22 : Fd := ⟨2, 3, [.asg (.n 2) (.cst (.int 1)), .while (.cmp .Gt (.var 1) (.cst (.int 0))) [.iff (.cmp .Eq (.bin .BitAnd (.var 1) (.cst (.int 1))) (.cst (.int 1))) [.asg (.n 2) (.bin .Mod (.bin .Mult (.var 2) (.var 0)) (.glob 7))] [], .asg (.n 0) (.bin .Mod (.bin .Mult (.var 0) (.var 0)) (.glob 7)), .asg (.n 1) (.bin .FloorDiv (.var 1) (.cst (.int 2)))], .ret (.var 2)]⟩
def e22 : DefE := ⟨"power", top 40, f22, ["base", "exponent", "found"], ["base", "exponent"]⟩
/-! 23 product ['values', 'found', 'value'] -/
def f23 : Fd := ⟨1, 3, [.asg (.n 1) (.cst (.int 1)), .for (.n 2) .seq [.var 0] [.asg (.n 1) (.bin .Mod (.bin .Mult (.var 1) (.var 2)) (.glob 7))], .ret (.var 1)]⟩
def e23 : DefE := ⟨"product", top 41, f23, ["values", "found", "value"], ["values"]⟩
/-! 24 combined ['operation', 'values'] -/
def f24 : Fd := ⟨2, 2, [.iff (.cmp .Eq (.var 0) (.cst (.str "add"))) [.ret (.bin .Mod (.bi .sum [.var 1]) (.glob 7))] [], .iff (.cmp .Eq (.var 0) (.cst (.str "mul"))) [.ret (.call 23 [.var 1])] [], .ret (.ite (.cmp .Eq (.var 0) (.cst (.str "min"))) (.bi .min [.var 1]) (.bi .max [.var 1]))]⟩
def e24 : DefE := ⟨"combined", top 42, f24, ["operation", "values"], ["operation", "values"]⟩
/-! 25 combined_equal ['operation', 'count', 'value'] -/
def f25 : Fd := ⟨3, 3, [.iff (.cmp .Eq (.var 0) (.cst (.str "add"))) [.ret (.bin .Mod (.bin .Mult (.var 1) (.var 2)) (.glob 7))] [], .iff (.cmp .Eq (.var 0) (.cst (.str "mul"))) [.ret (.call 22 [.var 2, .var 1])] [], .iff (.cmp .Eq (.var 1) (.cst (.int 0))) [.ret (.ite (.cmp .Eq (.var 0) (.cst (.str "min"))) (.bin .Sub (.glob 7) (.cst (.int 1))) (.cst (.int 0)))] [], .ret (.var 2)]⟩
def e25 : DefE := ⟨"combined_equal", top 43, f25, ["operation", "count", "value"], ["operation", "count", "value"]⟩
/-! 26 value_by ['expression', 'part'] -/
def f26 : Fd := ⟨1, 2, [.iff (.cmp .Eq (.ix (.var 0) (.cst (.int 0))) (.cst (.str "load"))) [.ret (.ix (.var 0) (.cst (.int 1)))] [], .iff (.cmp .Eq (.ix (.var 0) (.cst (.int 0))) (.cst (.str "apply"))) [.ret (.call 24 [.ix (.var 0) (.cst (.int 1)), .ofL (.comp (.call 26 [.var 1]) (.n 1) .seq [.ix (.var 0) (.cst (.int 2))] [])])] [], .ret (.call 25 [.ix (.var 0) (.cst (.int 1)), .ix (.var 0) (.cst (.int 2)), .call 26 [.ix (.var 0) (.cst (.int 3))]])]⟩
def e26 : DefE := ⟨"value_by", top 44, f26, ["expression", "part"], ["expression"]⟩
/-! 27 value_of ['expression'] -/
def f27 : Fd := ⟨1, 1, [.expr (.call 20 [.var 0]), .ret (.call 26 [.var 0])]⟩
def e27 : DefE := ⟨"value_of", top 45, f27, ["expression"], ["expression"]⟩
/-! 28 size_of ['expression'] -/
def f28 : Fd := ⟨1, 1, [.expr (.call 20 [.var 0]), .ret (.ix (.var 0) (.neg (.cst (.int 1))))]⟩
def e28 : DefE := ⟨"size_of", top 46, f28, ["expression"], ["expression"]⟩
/-! 29 job_of ['expression'] -/
def f29 : Fd := ⟨1, 1, [.expr (.call 20 [.var 0]), .ret (.call 21 [.var 0])]⟩
def e29 : DefE := ⟨"job_of", top 47, f29, ["expression"], ["expression"]⟩
/-! 30 _law_source ['_law_script', '_law_at', '_law_cell', '_law_size', '_law_mixed'] -/
def f30 : Fd := ⟨2, 5, [.asg (.n 2) (.ite (.cmp .Lt (.var 1) (.bi .len [.var 0])) (.ix (.var 0) (.var 1)) (.bin .Add (.bin .Mult (.cst (.int 3)) (.var 1)) (.cst (.int 2)))), .asg (.n 3) (.bin .Mod (.bi .abs [.var 2]) (.bin .Pow (.bin .Pow (.cst (.int 10)) (.cst (.int 60))) (.cst (.int 12)))), .asg (.n 4) (.bin .Add (.bin .Add (.bin .Mult (.var 3) (.cst (.int 2862933555777941757))) (.bin .Mult (.cst (.int 3037000493)) (.var 1))) (.bi .int [.cmp .Lt (.var 2) (.cst (.int 0))])), .ret (.newl (.disp [.bi .max [.cst (.int 0), .bin .Sub (.var 3) (.bin .Pow (.cst (.int 10)) (.cst (.int 18)))], .bin .Mod (.var 4) (.cst (.int 72057594037927931)), .cst (.int 0)]))]⟩
def e30 : DefE := ⟨"_law_source", top 49, f30, ["_law_script", "_law_at", "_law_cell", "_law_size", "_law_mixed"], ["_law_script", "_law_at"]⟩
/-! 31 _law_draw ['_law_source_here', '_law_many', '_law_one', '_law_two', '_law_found'] -/
def f31 : Fd := ⟨2, 5, [.iff (.cmp .Gt (.ix (.var 0) (.cst (.int 0))) (.cst (.int 0))) [.asg (.n 4) (.bin .Mod (.ix (.var 0) (.cst (.int 0))) (.var 1)), .setix (.var 0) (.cst (.int 0)) (.bin .FloorDiv (.ix (.var 0) (.cst (.int 0))) (.var 1)), .ret (.var 4)] [], .setix (.var 0) (.cst (.int 2)) (.bin .Add (.ix (.var 0) (.cst (.int 2))) (.cst (.int 1))), .asg (.n 2) (.bin .Mod (.bin .Add (.ix (.var 0) (.cst (.int 1))) (.bin .Mult (.cst (.int 11400714819323198)) (.ix (.var 0) (.cst (.int 2))))) (.cst (.int 18014398509481951))), .asg (.n 3) (.bin .Mult (.bin .Mod (.bin .Mult (.var 2) (.var 2)) (.cst (.int 36028797018963913))) (.var 2)), .asg (.n 3) (.bin .Mod (.bin .Add (.bin .Add (.var 3) (.bin .Mult (.cst (.int 2654435761)) (.ix (.var 0) (.cst (.int 2))))) (.bin .Mod (.ix (.var 0) (.cst (.int 1))) (.cst (.int 65521)))) (.cst (.int 1125899906842597))), .ret (.bin .Mod (.bin .FloorDiv (.bin .Mod (.bin .Mult (.var 3) (.var 3)) (.cst (.int 562949953421231))) (.cst (.int 512))) (.var 1))]⟩
def e31 : DefE := ⟨"_law_draw", top 50, f31, ["_law_source_here", "_law_many", "_law_one", "_law_two", "_law_found"], ["_law_source_here", "_law_many"]⟩
/-! 32 _law_great ['_law_source_here', '_law_many', '_law_found', '_law_turn'] -/
def f32 : Fd := ⟨2, 4, [.asg (.n 2) (.cst (.int 0)), .for (.n 3) .range1 [.cst (.int 4)] [.asg (.n 2) (.bin .Add (.bin .Mult (.var 2) (.bin .Pow (.cst (.int 10)) (.cst (.int 9)))) (.call 31 [.var 0, .bin .Pow (.cst (.int 10)) (.cst (.int 9))]))], .ret (.bin .Mod (.var 2) (.var 1))]⟩
def e32 : DefE := ⟨"_law_great", top 51, f32, ["_law_source_here", "_law_many", "_law_found", "_law_turn"], ["_law_source_here", "_law_many"]⟩
/-! 33 _law_odd ['_law_source_here', '_law_some'] -/
def f33 : Fd := ⟨1, 2, [.asg (.n 1) (.ofL (.disp [.cst .none, .cst (.bool true), .cst (.bool false), .neg (.cst (.int 1)), .cst (.int 0), .cst (.int 1), .cst (.int 5), .bin .Add (.bin .Pow (.cst (.int 10)) (.cst (.int 30))) (.cst (.int 1)), .bin .Pow (.cst (.int 10)) (.cst (.int 60)), .cst (.str ""), .cst (.str "seq"), .cst (.str "par"), .cst (.str "a"), .tup [], .ofL (.disp []), .dict0, .tup [.cst (.int 0)], .tup [.cst (.str "seq")]])), .ret (.ix (.bin .Add (.var 1) (.ofL (.disp [.tup [.tup []], .ofL (.disp [.cst (.str "seq"), .tup []]), .tup [.cst (.str "use"), .cst (.str "a")]]))) (.call 31 [.var 0, .cst (.int 21)]))]⟩
def e33 : DefE := ⟨"_law_odd", top 52, f33, ["_law_source_here", "_law_some"], ["_law_source_here"]⟩
/-! 34 _law_bent ['_law_source_here', '_law_value', '_law_deep', '_law_at', '_law_some'] -/
def f34 : Fd := ⟨3, 5, [.iff (.and [.isi (.var 1) [.tuple], .cmp .NotEq (.var 1) (.tup []), .cmp .Gt (.var 2) (.cst (.int 0)), .cmp .Gt (.call 31 [.var 0, .cst (.int 4)]) (.cst (.int 0))]) [.asg (.n 3) (.call 31 [.var 0, .bi .len [.var 1]]), .ret (.bin .Add (.bin .Add (.sliceT (.var 1) (.var 3)) (.tup [.call 34 [.var 0, .ix (.var 1) (.var 3), .bin .Sub (.var 2) (.cst (.int 1))]])) (.sliceF (.var 1) (.bin .Add (.var 3) (.cst (.int 1)))))] [], .iff (.isi (.var 1) [.tuple]) [.asg (.n 3) (.call 31 [.var 0, .bin .Add (.bi .len [.var 1]) (.cst (.int 1))]), .asg (.n 4) (.ofL (.disp [.bi .list [.var 1], .bin .Add (.sliceT (.var 1) (.var 3)) (.sliceF (.var 1) (.bin .Add (.var 3) (.cst (.int 1)))), .bin .Add (.bin .Add (.sliceT (.var 1) (.var 3)) (.tup [.cst (.int 0)])) (.sliceF (.var 1) (.var 3)), .rev (.var 1)])), .ret (.ix (.bin .Add (.var 4) (.ofL (.disp [.bin .Add (.var 1) (.sliceF (.var 1) (.neg (.cst (.int 1)))), .tup [.var 1], .tup []]))) (.call 31 [.var 0, .cst (.int 7)]))] [], .iff (.and [.isi (.var 1) [.int], .not (.isi (.var 1) [.bool])]) [.ret (.ix (.ofL (.disp [.bin .Add (.var 1) (.cst (.int 1)), .bin .Sub (.var 1) (.cst (.int 1)), .bin .Sub (.cst (.int 0)) (.var 1), .bi .str [.var 1], .cmp .Eq (.var 1) (.cst (.int 1)), .tup [.var 1]])) (.call 31 [.var 0, .cst (.int 6)]))] [], .ret (.call 33 [.var 0])]⟩
def e34 : DefE := ⟨"_law_bent", top 53, f34, ["_law_source_here", "_law_value", "_law_deep", "_law_at", "_law_some"], ["_law_source_here", "_law_value", "_law_deep"]⟩
/-! 35 _law_expression ['_law_source_here', '_law_deep', '_law_counts', '_law_operation', '_law_count', '_law_way', '_law_size', '_law_parts', '_law_turn'] -/
def f35 : Fd := ⟨3, 9, [.par [5, 6] [.e (.call 31 [.var 0, .cst (.int 8)]), .e (.ix (.ofL (.disp [.cst (.int 0), .cst (.int 1), .cst (.int 2), .cst (.int 3), .cst (.int 9), .call 31 [.var 0, .cst (.int 50)]])) (.call 31 [.var 0, .cst (.int 6)]))], .iff (.or [.cmp .Lt (.var 1) (.cst (.int 2)), .cmp .Lt (.var 5) (.cst (.int 2))]) [.ret (.tup [.cst (.str "load"), .ix (.ofL (.disp [.cst (.int 0), .cst (.int 1), .cst (.int 996), .call 31 [.var 0, .cst (.int 997)]])) (.call 31 [.var 0, .cst (.int 4)]), .var 6])] [], .asg (.n 3) (.ix (.ofL (.disp [.cst (.str "add"), .cst (.str "mul"), .cst (.str "min"), .cst (.str "max")])) (.call 31 [.var 0, .cst (.int 4)])), .iff (.cmp .Lt (.var 5) (.cst (.int 6))) [.own 7 (.comp (.call 35 [.var 0, .bin .Sub (.var 1) (.cst (.int 1)), .var 2]) (.n 8) .range1 [.bin .Add (.cst (.int 1)) (.call 31 [.var 0, .cst (.int 3)])] []), .freeze 7, .ret (.tup [.cst (.str "apply"), .var 3, .bi .tuple [.var 7], .var 6])] [], .asg (.n 4) (.ix (.var 2) (.call 31 [.var 0, .bi .len [.var 2]])), .ret (.tup [.ix (.ofL (.disp [.cst (.str "each"), .cst (.str "fold")])) (.bin .Mod (.var 5) (.cst (.int 2))), .var 3, .var 4, .call 35 [.var 0, .bin .Sub (.var 1) (.cst (.int 1)), .var 2], .var 6])]⟩
def e35 : DefE := ⟨"_law_expression", top 54, f35, ["_law_source_here", "_law_deep", "_law_counts", "_law_operation", "_law_count", "_law_way", "_law_size", "_law_parts", "_law_turn"], ["_law_source_here", "_law_deep", "_law_counts"]⟩
/-! 36 _law_work ['_law_made', '_law_parts', '_law_word', '_law_operation', '_law_count', '_law_part', '_law_size'] -/
def f36 : Fd := ⟨1, 7, [.iff (.cmp .Eq (.ix (.var 0) (.cst (.int 0))) (.cst (.str "load"))) [.ret (.ix (.var 0) (.cst (.int 2)))] [], .iff (.cmp .Eq (.ix (.var 0) (.cst (.int 0))) (.cst (.str "apply"))) [.asg (.n 1) (.bi .tuple [.ofL (.comp (.call 36 [.var 5]) (.n 5) .seq [.ix (.var 0) (.cst (.int 2))] [])]), .ret (.tup [.cst (.str "seq"), .tup [.tup [.cst (.str "par"), .var 1], .ix (.var 0) (.cst (.int 3)), .bin .Sub (.cst (.int 0)) (.bi .sum [.ofL (.comp (.ix (.var 5) (.neg (.cst (.int 1)))) (.n 5) .seq [.ix (.var 0) (.cst (.int 2))] [])])]])] [], .asg (.t [2, 3, 4, 5, 6]) (.var 0), .iff (.cmp .Eq (.var 2) (.cst (.str "each"))) [.ret (.tup [.cst (.str "seq"), .tup [.tup [.cst (.str "copies"), .var 4, .call 36 [.var 5]], .var 6, .bin .Sub (.cst (.int 0)) (.bin .Mult (.var 4) (.ix (.var 5) (.neg (.cst (.int 1)))))]])] [], .ret (.tup [.cst (.str "seq"), .tup [.var 6, .tup [.cst (.str "repeat"), .var 4, .tup [.cst (.str "seq"), .tup [.call 36 [.var 5], .bin .Sub (.cst (.int 0)) (.ix (.var 5) (.neg (.cst (.int 1))))]]]]])]⟩
def e36 : DefE := ⟨"_law_work", top 55, f36, ["_law_made", "_law_parts", "_law_word", "_law_operation", "_law_count", "_law_part", "_law_size"], ["_law_made"]⟩
/-! 37 _law_combined ['_law_operation', '_law_numbers', '_law_found', '_law_number_here'] -/
def f37 : Fd := ⟨2, 4, [.iff (.cmp .In (.var 0) (.tup [.cst (.str "min"), .cst (.str "max")])) [.ret (.ite (.cmp .Eq (.var 0) (.cst (.str "min"))) (.bi .min [.var 1]) (.bi .max [.var 1]))] [], .asg (.n 2) (.bi .int [.cmp .Eq (.var 0) (.cst (.str "mul"))]), .for (.n 3) .seq [.var 1] [.asg (.n 2) (.bin .Mod (.ite (.cmp .Eq (.var 0) (.cst (.str "mul"))) (.bin .Mult (.var 2) (.var 3)) (.bin .Add (.var 2) (.var 3))) (.cst (.int 997)))], .ret (.var 2)]⟩
def e37 : DefE := ⟨"_law_combined", top 56, f37, ["_law_operation", "_law_numbers", "_law_found", "_law_number_here"], ["_law_operation", "_law_numbers"]⟩
/-! 38 _law_number ['_law_made', '_law_one', '_law_word', '_law_operation', '_law_count', '_law_part', '_law_size'] -/
def f38 : Fd := ⟨1, 7, [.iff (.cmp .Eq (.ix (.var 0) (.cst (.int 0))) (.cst (.str "load"))) [.ret (.ix (.var 0) (.cst (.int 1)))] [], .iff (.cmp .Eq (.ix (.var 0) (.cst (.int 0))) (.cst (.str "apply"))) [.ret (.call 37 [.ix (.var 0) (.cst (.int 1)), .ofL (.comp (.call 38 [.var 5]) (.n 5) .seq [.ix (.var 0) (.cst (.int 2))] [])])] [], .asg (.t [2, 3, 4, 5, 6]) (.var 0), .asg (.n 1) (.call 38 [.var 5]), .iff (.cmp .Eq (.var 3) (.cst (.str "add"))) [.ret (.bin .Mod (.bin .Mult (.var 4) (.var 1)) (.cst (.int 997)))] [], .iff (.or [.cmp .NotEq (.var 3) (.cst (.str "mul")), .cmp .Eq (.var 1) (.cst (.int 0))]) [.ret (.var 1)] [], .ret (.call 37 [.cst (.str "mul"), .bin .Mult (.ofL (.disp [.var 1])) (.bin .Mod (.var 4) (.cst (.int 996)))])]⟩
def e38 : DefE := ⟨"_law_number", top 57, f38, ["_law_made", "_law_one", "_law_word", "_law_operation", "_law_count", "_law_part", "_law_size"], ["_law_made"]⟩
/-! 39 _law_beyond ['_law_turn', '_law_wide', '_law_one', '_law_deep'] -/
def f39 : Fd := ⟨0, 4, [.asg (.t [2, 3]) (.tup [.tup [.cst (.str "load"), .cst (.int 1), .cst (.int 1)], .tup [.cst (.str "load"), .cst (.int 1), .cst (.int 1)]]), .for (.n 0) .range1 [.cst (.int 7)] [.asg (.n 3) (.tup [.cst (.str "apply"), .cst (.str "max"), .tup [.var 3], .cst (.int 0)])], .asg (.n 1) (.tup [.cst (.str "apply"), .cst (.str "add"), .bin .Mult (.tup [.var 2]) (.cst (.int 60)), .cst (.int 0)]), .ret (.ofL (.disp [.var 3, .tup [.cst (.str "apply"), .cst (.str "add"), .bin .Mult (.tup [.var 1]) (.cst (.int 7)), .cst (.int 0)], .tup [.cst (.str "each"), .cst (.str "add"), .bin .Sub (.bin .Pow (.cst (.int 10)) (.cst (.int 30))) (.cst (.int 1)), .var 2, .cst (.int 0)]]))]⟩
def e39 : DefE := ⟨"_law_beyond", top 58, f39, ["_law_turn", "_law_wide", "_law_one", "_law_deep"], []⟩
/-! 40 _law_asked ['_law_way', '_law_value', 'e'] -/
def f40 : Fd := ⟨2, 3, [.tryE [.iff (.cmp .Eq (.var 0) (.cst (.int 0))) [.ret (.call 27 [.var 1])] [], .ret (.ite (.cmp .Eq (.var 0) (.cst (.int 1))) (.call 28 [.var 1]) (.call 29 [.var 1]))] 0 [0, 1, 2] 2 (.ite (.and (.isx 2 [2]) (.not (.isx 1 [1]))) (.cst (.str "none")) (.cst (.str "odd")))]⟩
def e40 : DefE := ⟨"_law_asked", top 59, f40, ["_law_way", "_law_value", "e"], ["_law_way", "_law_value"]⟩
/-! 41 _law_right ['_law_made', '_law_turn', '_law_kept', '_law_due', '_law_way'] -/
def f41 : Fd := ⟨1, 5, [.par [2, 3] [.e (.bi .repr [.var 0]), .e (.ofL (.disp [.call 38 [.var 0], .ix (.var 0) (.neg (.cst (.int 1))), .call 36 [.var 0]]))], .for (.n 1) .range1 [.cst (.int 2)] [.iff (.cmp .NotEq (.bi .repr [.ofL (.comp (.call 40 [.var 4, .var 0]) (.n 4) .range1 [.cst (.int 3)] [])]) (.bi .repr [.var 3])) [.ret (.cst (.bool false))] []], .ret (.and [.cmp .Eq (.bi .repr [.var 0]) (.var 2), .cmp .Eq (.call 11 [.call 29 [.var 0]]) (.call 28 [.var 0])])]⟩
def e41 : DefE := ⟨"_law_right", top 60, f41, ["_law_made", "_law_turn", "_law_kept", "_law_due", "_law_way"], ["_law_made"]⟩
/-! 42 _law_none_right ['_law_value', '_law_way'] -/
def f42 : Fd := ⟨1, 2, [.ret (.cmp .Eq (.ofL (.comp (.call 40 [.var 1, .var 0]) (.n 1) .range1 [.cst (.int 3)] [])) (.bin .Mult (.ofL (.disp [.cst (.str "none")])) (.cst (.int 3))))]⟩
def e42 : DefE := ⟨"_law_none_right", top 61, f42, ["_law_value", "_law_way"], ["_law_value"]⟩
/-! 43 law ['_law_script', '_law_at', '_law_source_here', '_law_counts', '_law_made', '_law_turn', '_law_other', '_law_value'] -/
def f43 : Fd := ⟨1, 8, [.for (.n 1) .range1 [.bi .max [.cst (.int 1), .bi .min [.cst (.int 8), .bi .len [.var 0]]]] [.asg (.n 2) (.call 30 [.var 0, .var 1]), .for (.n 3) .seq [.tup [.ofL (.disp [.cst (.int 1), .cst (.int 2), .cst (.int 3)]), .ofL (.disp [.cst (.int 1), .cst (.int 2), .bin .Pow (.cst (.int 10)) (.cst (.int 9)), .bin .Add (.cst (.int 1)) (.call 32 [.var 2, .bin .Pow (.cst (.int 10)) (.cst (.int 9))])])]] [.asg (.n 4) (.call 35 [.var 2, .cst (.int 4), .var 3]), .iff (.not (.call 41 [.var 4])) [.ret (.cst (.bool false))] [], .for (.n 5) .range1 [.cst (.int 3)] [.asg (.n 6) (.ite (.cmp .Lt (.var 5) (.cst (.int 2))) (.call 34 [.var 2, .var 4, .cst (.int 6)]) (.call 33 [.var 2])), .iff (.not (.ite (.call 19 [.var 6]) (.call 41 [.var 6]) (.call 42 [.var 6]))) [.ret (.cst (.bool false))] []]]], .ret (.cmp .Eq (.ofL (.comp (.var 7) (.n 7) .seq [.call 39 []] [.not (.call 42 [.var 7])])) (.ofL (.disp [])))]⟩
def e43 : DefE := ⟨"law", top 62, f43, ["_law_script", "_law_at", "_law_source_here", "_law_counts", "_law_made", "_law_turn", "_law_other", "_law_value"], ["_law_script"]⟩
def ds : List DefE := [e0, e1, e2, e3, e4, e5, e6, e7, e8, e9, e10, e11, e12, e13, e14, e15, e16, e17, e18, e19, e20, e21, e22, e23, e24, e25, e26, e27, e28, e29, e30, e31, e32, e33, e34, e35, e36, e37, e38, e39, e40, e41, e42, e43]
def gs : List (Str × PyData) := [("MAX_STEP", .int 1000000000000000000000000000000), ("MAX_COUNT", .int 1000000000000000000000000000000), ("MAX_PARTS", .int 400), ("MAX_NODES", .int 400), ("MAX_DEPTH", .int 13), ("GROUPS", .tuple [.str "seq", .str "par"]), ("MULTIPLES", .tuple [.str "repeat", .str "copies"]), ("MODULUS", .int 997), ("MAX_SIZE", .int 1000000000000), ("OPERATIONS", .tuple [.str "add", .str "mul", .str "min", .str "max"]), ("MANY", .tuple [.str "each", .str "fold"])]
def csl : List Str := ["JobError", "InvalidJob", "InvalidExpression"]
def sbl : List (List Nat) := [[0], [0, 1], [0, 2]]
def tb : Tb := ⟨fnT ds, glT gs, fun i => csl[i]?, subT sbl, 3⟩
theorem c0 : DefC tb e0 := ⟨⟨⟨rfl, rfl, rfl, by decide +kernel, rfl, by decide +kernel, by decide +kernel⟩, rfl, rfl, by decide +kernel⟩, fun _ _ _ _ _ _ us hl => match us, hl with | [_], _ => rfl⟩
theorem c1 : DefC tb e1 := ⟨⟨⟨rfl, rfl, rfl, by decide +kernel, rfl, by decide +kernel, by decide +kernel⟩, rfl, rfl, by decide +kernel⟩, fun _ _ _ _ _ _ us hl => match us, hl with | [_, _, _], _ => rfl⟩
theorem c2 : DefC tb e2 := ⟨⟨⟨rfl, rfl, rfl, by decide +kernel, rfl, by decide +kernel, by decide +kernel⟩, rfl, rfl, by decide +kernel⟩, fun _ _ _ _ _ _ us hl => match us, hl with | [_], _ => rfl⟩
theorem c3 : DefC tb e3 := ⟨⟨⟨rfl, rfl, rfl, by decide +kernel, rfl, by decide +kernel, by decide +kernel⟩, rfl, rfl, by decide +kernel⟩, fun _ _ _ _ _ _ us hl => match us, hl with | [_, _], _ => rfl⟩
theorem c4 : DefC tb e4 := ⟨⟨⟨rfl, rfl, rfl, by decide +kernel, rfl, by decide +kernel, by decide +kernel⟩, rfl, rfl, by decide +kernel⟩, fun _ _ _ _ _ _ us hl => match us, hl with | [_, _], _ => rfl⟩
theorem c5 : DefC tb e5 := ⟨⟨⟨rfl, rfl, rfl, by decide +kernel, rfl, by decide +kernel, by decide +kernel⟩, rfl, rfl, by decide +kernel⟩, fun _ _ _ _ _ _ us hl => match us, hl with | [_, _, _], _ => rfl⟩
theorem c6 : DefC tb e6 := ⟨⟨⟨rfl, rfl, rfl, by decide +kernel, rfl, by decide +kernel, by decide +kernel⟩, rfl, rfl, by decide +kernel⟩, fun _ _ _ _ _ _ us hl => match us, hl with | [_], _ => rfl⟩
theorem c7 : DefC tb e7 := ⟨⟨⟨rfl, rfl, rfl, by decide +kernel, rfl, by decide +kernel, by decide +kernel⟩, rfl, rfl, by decide +kernel⟩, fun _ _ _ _ _ _ us hl => match us, hl with | [_], _ => rfl⟩
theorem c8 : DefC tb e8 := ⟨⟨⟨rfl, rfl, rfl, by decide +kernel, rfl, by decide +kernel, by decide +kernel⟩, rfl, rfl, by decide +kernel⟩, fun _ _ _ _ _ _ us hl => match us, hl with | [_], _ => rfl⟩
theorem c9 : DefC tb e9 := ⟨⟨⟨rfl, rfl, rfl, by decide +kernel, rfl, by decide +kernel, by decide +kernel⟩, rfl, rfl, by decide +kernel⟩, fun _ _ _ _ _ _ us hl => match us, hl with | [_, _], _ => rfl⟩
theorem c10 : DefC tb e10 := ⟨⟨⟨rfl, rfl, rfl, by decide +kernel, rfl, by decide +kernel, by decide +kernel⟩, rfl, rfl, by decide +kernel⟩, fun _ _ _ _ _ _ us hl => match us, hl with | [_], _ => rfl⟩
theorem c11 : DefC tb e11 := ⟨⟨⟨rfl, rfl, rfl, by decide +kernel, rfl, by decide +kernel, by decide +kernel⟩, rfl, rfl, by decide +kernel⟩, fun _ _ _ _ _ _ us hl => match us, hl with | [_], _ => rfl⟩
theorem c12 : DefC tb e12 := ⟨⟨⟨rfl, rfl, rfl, by decide +kernel, rfl, by decide +kernel, by decide +kernel⟩, rfl, rfl, by decide +kernel⟩, fun _ _ _ _ _ _ us hl => match us, hl with | [_], _ => rfl⟩
theorem c13 : DefC tb e13 := ⟨⟨⟨rfl, rfl, rfl, by decide +kernel, rfl, by decide +kernel, by decide +kernel⟩, rfl, rfl, by decide +kernel⟩, fun _ _ _ _ _ _ us hl => match us, hl with | [_], _ => rfl⟩
theorem c14 : DefC tb e14 := ⟨⟨⟨rfl, rfl, rfl, by decide +kernel, rfl, by decide +kernel, by decide +kernel⟩, rfl, rfl, by decide +kernel⟩, fun _ _ _ _ _ _ us hl => match us, hl with | [_], _ => rfl⟩
theorem c15 : DefC tb e15 := ⟨⟨⟨rfl, rfl, rfl, by decide +kernel, rfl, by decide +kernel, by decide +kernel⟩, rfl, rfl, by decide +kernel⟩, fun _ _ _ _ _ _ us hl => match us, hl with | [_, _], _ => rfl⟩
theorem c16 : DefC tb e16 := ⟨⟨⟨rfl, rfl, rfl, by decide +kernel, rfl, by decide +kernel, by decide +kernel⟩, rfl, rfl, by decide +kernel⟩, fun _ _ _ _ _ _ us hl => match us, hl with | [_, _, _], _ => rfl⟩
theorem c17 : DefC tb e17 := ⟨⟨⟨rfl, rfl, rfl, by decide +kernel, rfl, by decide +kernel, by decide +kernel⟩, rfl, rfl, by decide +kernel⟩, fun _ _ _ _ _ _ us hl => match us, hl with | [_], _ => rfl⟩
theorem c18 : DefC tb e18 := ⟨⟨⟨rfl, rfl, rfl, by decide +kernel, rfl, by decide +kernel, by decide +kernel⟩, rfl, rfl, by decide +kernel⟩, fun _ _ _ _ _ _ us hl => match us, hl with | [_, _], _ => rfl⟩
theorem c19 : DefC tb e19 := ⟨⟨⟨rfl, rfl, rfl, by decide +kernel, rfl, by decide +kernel, by decide +kernel⟩, rfl, rfl, by decide +kernel⟩, fun _ _ _ _ _ _ us hl => match us, hl with | [_], _ => rfl⟩
theorem c20 : DefC tb e20 := ⟨⟨⟨rfl, rfl, rfl, by decide +kernel, rfl, by decide +kernel, by decide +kernel⟩, rfl, rfl, by decide +kernel⟩, fun _ _ _ _ _ _ us hl => match us, hl with | [_], _ => rfl⟩
theorem c21 : DefC tb e21 := ⟨⟨⟨rfl, rfl, rfl, by decide +kernel, rfl, by decide +kernel, by decide +kernel⟩, rfl, rfl, by decide +kernel⟩, fun _ _ _ _ _ _ us hl => match us, hl with | [_], _ => rfl⟩
theorem c22 : DefC tb e22 := ⟨⟨⟨rfl, rfl, rfl, by decide +kernel, rfl, by decide +kernel, by decide +kernel⟩, rfl, rfl, by decide +kernel⟩, fun _ _ _ _ _ _ us hl => match us, hl with | [_, _], _ => rfl⟩
theorem c23 : DefC tb e23 := ⟨⟨⟨rfl, rfl, rfl, by decide +kernel, rfl, by decide +kernel, by decide +kernel⟩, rfl, rfl, by decide +kernel⟩, fun _ _ _ _ _ _ us hl => match us, hl with | [_], _ => rfl⟩
theorem c24 : DefC tb e24 := ⟨⟨⟨rfl, rfl, rfl, by decide +kernel, rfl, by decide +kernel, by decide +kernel⟩, rfl, rfl, by decide +kernel⟩, fun _ _ _ _ _ _ us hl => match us, hl with | [_, _], _ => rfl⟩
theorem c25 : DefC tb e25 := ⟨⟨⟨rfl, rfl, rfl, by decide +kernel, rfl, by decide +kernel, by decide +kernel⟩, rfl, rfl, by decide +kernel⟩, fun _ _ _ _ _ _ us hl => match us, hl with | [_, _, _], _ => rfl⟩
theorem c26 : DefC tb e26 := ⟨⟨⟨rfl, rfl, rfl, by decide +kernel, rfl, by decide +kernel, by decide +kernel⟩, rfl, rfl, by decide +kernel⟩, fun _ _ _ _ _ _ us hl => match us, hl with | [_], _ => rfl⟩
theorem c27 : DefC tb e27 := ⟨⟨⟨rfl, rfl, rfl, by decide +kernel, rfl, by decide +kernel, by decide +kernel⟩, rfl, rfl, by decide +kernel⟩, fun _ _ _ _ _ _ us hl => match us, hl with | [_], _ => rfl⟩
theorem c28 : DefC tb e28 := ⟨⟨⟨rfl, rfl, rfl, by decide +kernel, rfl, by decide +kernel, by decide +kernel⟩, rfl, rfl, by decide +kernel⟩, fun _ _ _ _ _ _ us hl => match us, hl with | [_], _ => rfl⟩
theorem c29 : DefC tb e29 := ⟨⟨⟨rfl, rfl, rfl, by decide +kernel, rfl, by decide +kernel, by decide +kernel⟩, rfl, rfl, by decide +kernel⟩, fun _ _ _ _ _ _ us hl => match us, hl with | [_], _ => rfl⟩
theorem c30 : DefC tb e30 := ⟨⟨⟨rfl, rfl, rfl, by decide +kernel, rfl, by decide +kernel, by decide +kernel⟩, rfl, rfl, by decide +kernel⟩, fun _ _ _ _ _ _ us hl => match us, hl with | [_, _], _ => rfl⟩
theorem c31 : DefC tb e31 := ⟨⟨⟨rfl, rfl, rfl, by decide +kernel, rfl, by decide +kernel, by decide +kernel⟩, rfl, rfl, by decide +kernel⟩, fun _ _ _ _ _ _ us hl => match us, hl with | [_, _], _ => rfl⟩
theorem c32 : DefC tb e32 := ⟨⟨⟨rfl, rfl, rfl, by decide +kernel, rfl, by decide +kernel, by decide +kernel⟩, rfl, rfl, by decide +kernel⟩, fun _ _ _ _ _ _ us hl => match us, hl with | [_, _], _ => rfl⟩
theorem c33 : DefC tb e33 := ⟨⟨⟨rfl, rfl, rfl, by decide +kernel, rfl, by decide +kernel, by decide +kernel⟩, rfl, rfl, by decide +kernel⟩, fun _ _ _ _ _ _ us hl => match us, hl with | [_], _ => rfl⟩
theorem c34 : DefC tb e34 := ⟨⟨⟨rfl, rfl, rfl, by decide +kernel, rfl, by decide +kernel, by decide +kernel⟩, rfl, rfl, by decide +kernel⟩, fun _ _ _ _ _ _ us hl => match us, hl with | [_, _, _], _ => rfl⟩
theorem c35 : DefC tb e35 := ⟨⟨⟨rfl, rfl, rfl, by decide +kernel, rfl, by decide +kernel, by decide +kernel⟩, rfl, rfl, by decide +kernel⟩, fun _ _ _ _ _ _ us hl => match us, hl with | [_, _, _], _ => rfl⟩
theorem c36 : DefC tb e36 := ⟨⟨⟨rfl, rfl, rfl, by decide +kernel, rfl, by decide +kernel, by decide +kernel⟩, rfl, rfl, by decide +kernel⟩, fun _ _ _ _ _ _ us hl => match us, hl with | [_], _ => rfl⟩
theorem c37 : DefC tb e37 := ⟨⟨⟨rfl, rfl, rfl, by decide +kernel, rfl, by decide +kernel, by decide +kernel⟩, rfl, rfl, by decide +kernel⟩, fun _ _ _ _ _ _ us hl => match us, hl with | [_, _], _ => rfl⟩
theorem c38 : DefC tb e38 := ⟨⟨⟨rfl, rfl, rfl, by decide +kernel, rfl, by decide +kernel, by decide +kernel⟩, rfl, rfl, by decide +kernel⟩, fun _ _ _ _ _ _ us hl => match us, hl with | [_], _ => rfl⟩
theorem c39 : DefC tb e39 := ⟨⟨⟨rfl, rfl, rfl, by decide +kernel, rfl, by decide +kernel, by decide +kernel⟩, rfl, rfl, by decide +kernel⟩, fun _ _ _ _ _ _ us hl => match us, hl with | [], _ => rfl⟩
theorem c40 : DefC tb e40 := ⟨⟨⟨rfl, rfl, rfl, by decide +kernel, rfl, by decide +kernel, by decide +kernel⟩, rfl, rfl, by decide +kernel⟩, fun _ _ _ _ _ _ us hl => match us, hl with | [_, _], _ => rfl⟩
theorem c41 : DefC tb e41 := ⟨⟨⟨rfl, rfl, rfl, by decide +kernel, rfl, by decide +kernel, by decide +kernel⟩, rfl, rfl, by decide +kernel⟩, fun _ _ _ _ _ _ us hl => match us, hl with | [_], _ => rfl⟩
theorem c42 : DefC tb e42 := ⟨⟨⟨rfl, rfl, rfl, by decide +kernel, rfl, by decide +kernel, by decide +kernel⟩, rfl, rfl, by decide +kernel⟩, fun _ _ _ _ _ _ us hl => match us, hl with | [_], _ => rfl⟩
theorem c43 : DefC tb e43 := ⟨⟨⟨rfl, rfl, rfl, by decide +kernel, rfl, by decide +kernel, by decide +kernel⟩, rfl, rfl, by decide +kernel⟩, fun _ _ _ _ _ _ us hl => match us, hl with | [_], _ => rfl⟩
theorem defC : ∀ D ∈ ds, DefC tb D := allC c0 <| allC c1 <| allC c2 <| allC c3 <| allC c4 <| allC c5 <| allC c6 <| allC c7 <| allC c8 <| allC c9 <| allC c10 <| allC c11 <| allC c12 <| allC c13 <| allC c14 <| allC c15 <| allC c16 <| allC c17 <| allC c18 <| allC c19 <| allC c20 <| allC c21 <| allC c22 <| allC c23 <| allC c24 <| allC c25 <| allC c26 <| allC c27 <| allC c28 <| allC c29 <| allC c30 <| allC c31 <| allC c32 <| allC c33 <| allC c34 <| allC c35 <| allC c36 <| allC c37 <| allC c38 <| allC c39 <| allC c40 <| allC c41 <| allC c42 <| allC c43 <| allN
theorem defK {K : PySem.W.Frag} (d0 : DK K e0.x e0.st) (d1 : DK K e1.x e1.st) (d2 : DK K e2.x e2.st) (d3 : DK K e3.x e3.st) (d4 : DK K e4.x e4.st) (d5 : DK K e5.x e5.st) (d6 : DK K e6.x e6.st) (d7 : DK K e7.x e7.st) (d8 : DK K e8.x e8.st) (d9 : DK K e9.x e9.st) (d10 : DK K e10.x e10.st) (d11 : DK K e11.x e11.st) (d12 : DK K e12.x e12.st) (d13 : DK K e13.x e13.st) (d14 : DK K e14.x e14.st) (d15 : DK K e15.x e15.st) (d16 : DK K e16.x e16.st) (d17 : DK K e17.x e17.st) (d18 : DK K e18.x e18.st) (d19 : DK K e19.x e19.st) (d20 : DK K e20.x e20.st) (d21 : DK K e21.x e21.st) (d22 : DK K e22.x e22.st) (d23 : DK K e23.x e23.st) (d24 : DK K e24.x e24.st) (d25 : DK K e25.x e25.st) (d26 : DK K e26.x e26.st) (d27 : DK K e27.x e27.st) (d28 : DK K e28.x e28.st) (d29 : DK K e29.x e29.st) (d30 : DK K e30.x e30.st) (d31 : DK K e31.x e31.st) (d32 : DK K e32.x e32.st) (d33 : DK K e33.x e33.st) (d34 : DK K e34.x e34.st) (d35 : DK K e35.x e35.st) (d36 : DK K e36.x e36.st) (d37 : DK K e37.x e37.st) (d38 : DK K e38.x e38.st) (d39 : DK K e39.x e39.st) (d40 : DK K e40.x e40.st) (d41 : DK K e41.x e41.st) (d42 : DK K e42.x e42.st) (d43 : DK K e43.x e43.st) : ∀ D ∈ ds, DK K D.x D.st := allC (p := fun D => DK K D.x D.st) d0 <| allC (p := fun D => DK K D.x D.st) d1 <| allC (p := fun D => DK K D.x D.st) d2 <| allC (p := fun D => DK K D.x D.st) d3 <| allC (p := fun D => DK K D.x D.st) d4 <| allC (p := fun D => DK K D.x D.st) d5 <| allC (p := fun D => DK K D.x D.st) d6 <| allC (p := fun D => DK K D.x D.st) d7 <| allC (p := fun D => DK K D.x D.st) d8 <| allC (p := fun D => DK K D.x D.st) d9 <| allC (p := fun D => DK K D.x D.st) d10 <| allC (p := fun D => DK K D.x D.st) d11 <| allC (p := fun D => DK K D.x D.st) d12 <| allC (p := fun D => DK K D.x D.st) d13 <| allC (p := fun D => DK K D.x D.st) d14 <| allC (p := fun D => DK K D.x D.st) d15 <| allC (p := fun D => DK K D.x D.st) d16 <| allC (p := fun D => DK K D.x D.st) d17 <| allC (p := fun D => DK K D.x D.st) d18 <| allC (p := fun D => DK K D.x D.st) d19 <| allC (p := fun D => DK K D.x D.st) d20 <| allC (p := fun D => DK K D.x D.st) d21 <| allC (p := fun D => DK K D.x D.st) d22 <| allC (p := fun D => DK K D.x D.st) d23 <| allC (p := fun D => DK K D.x D.st) d24 <| allC (p := fun D => DK K D.x D.st) d25 <| allC (p := fun D => DK K D.x D.st) d26 <| allC (p := fun D => DK K D.x D.st) d27 <| allC (p := fun D => DK K D.x D.st) d28 <| allC (p := fun D => DK K D.x D.st) d29 <| allC (p := fun D => DK K D.x D.st) d30 <| allC (p := fun D => DK K D.x D.st) d31 <| allC (p := fun D => DK K D.x D.st) d32 <| allC (p := fun D => DK K D.x D.st) d33 <| allC (p := fun D => DK K D.x D.st) d34 <| allC (p := fun D => DK K D.x D.st) d35 <| allC (p := fun D => DK K D.x D.st) d36 <| allC (p := fun D => DK K D.x D.st) d37 <| allC (p := fun D => DK K D.x D.st) d38 <| allC (p := fun D => DK K D.x D.st) d39 <| allC (p := fun D => DK K D.x D.st) d40 <| allC (p := fun D => DK K D.x D.st) d41 <| allC (p := fun D => DK K D.x D.st) d42 <| allC (p := fun D => DK K D.x D.st) d43 <| allN
end Tx
namespace Tx
open PySem Mi
abbrev Cl (k i : Nat) (xs : List Vl) (h : Sh) : R Vl := callF (ΦT ds) (GT gs) 1000 k i xs h
def isInt : PyData → Bool
  | .int _ => true
  | _ => false
theorem p0 {k : Nat} (d : PyData) (h : Sh) : Cl (k + 1) 0 [.d d] h = .ok (.d (.bool (isInt d))) h := by cases d <;> rfl
def btw (lo hi : Int) : PyData → Bool
  | .int i => decide (lo ≤ i) && decide (i ≤ hi)
  | _ => false
theorem φ1 : ΦT ds 1 = some f1 := rfl
theorem p1 {k : Nat} (d : PyData) (lo hi : Int) (h : Sh) : Cl (k + 2) 1 [.d d, .d (.int lo), .d (.int hi)] h = .ok (.d (.bool (btw lo hi d))) h := by
  cases d with
  | int i =>
    rw [Cl, call_at φ1 rfl]
    show fin (evSs _ _ _ f1.body [.v (.d (.int i)), .v (.d (.int lo)), .v (.d (.int hi))] h) = _
    simp only [f1]
    simp only [evSs, evS, evE, evEs, evAnd, evOr, b_ok, b_no, b_ex, t_ok, t_bl, l_some, fin_rt, fin_nx, fin_ex, List.getElem?_cons_zero, List.getElem?_cons_succ, truV, truD, lift, cmpD, Option.map]
    by_cases h1 : lo ≤ i <;> by_cases h2 : i ≤ hi <;> simp [p0, isInt, btw, h1, h2, b_ok, fin_rt]
  | _ => rfl
/-! ### measured -/
def intOf : PyData → Int
  | .int i => i
  | _ => 0
theorem btw_int {lo hi : Int} {d : PyData} (h : btw lo hi d = true) : d = .int (intOf d) ∧ lo ≤ intOf d ∧ intOf d ≤ hi := by
  cases d <;> simp only [btw] at h <;> first | (cases h; done) | skip
  rw [Bool.and_eq_true, decide_eq_true_eq, decide_eq_true_eq] at h
  exact ⟨rfl, h.1, h.2⟩
def mxI : Int := 10 ^ 30
mutual
def meas : Nat → PyData → Option (Int × Int)
  | 0, _ => none
  | n + 1, d => if btw (0 - mxI) mxI d then some (1, 1) else match d with
    | .tuple [.str w, .tuple ps] => if w = ("seq" : Str) ∨ w = ("par" : Str) then (if ps.length > 400 then none else measL n ps 1 0) else none
    | .tuple [.str w, c, x] => if w = ("repeat" : Str) ∨ w = ("copies" : Str) then (if btw 0 mxI c then (match meas n x with
      | none => none
      | some (a, b) => if a = 400 ∨ intOf c * b > mxI then none else some (1 + a, intOf c * b)) else none) else none
    | _ => none
def measL : Nat → List PyData → Int → Int → Option (Int × Int)
  | _, [], a, b => some (a, b)
  | n, x :: xs, a, b => match meas n x with
    | none => none
    | some (p, q) => if a + p > 400 ∨ b + q > mxI then none else measL n xs (a + p) (b + q)
end
def encM : Option (Int × Int) → PyData
  | none => .none
  | some (a, b) => .tuple [.int a, .int b]
theorem φ3 : ΦT ds 3 = some f3 := rfl
theorem φ4 : ΦT ds 4 = some f4 := rfl
theorem φ5 : ΦT ds 5 = some f5 := rfl
theorem g0 : GT gs 0 = some (.int 1000000000000000000000000000000) := rfl
theorem g1 : GT gs 1 = some (.int 1000000000000000000000000000000) := rfl
theorem g2 : GT gs 2 = some (.int 400) := rfl
theorem g3 : GT gs 3 = some (.int 400) := rfl
theorem g5 : GT gs 5 = some (.tuple [.str "seq", .str "par"]) := rfl
theorem g6 : GT gs 6 = some (.tuple [.str "repeat", .str "copies"]) := rfl
theorem mx : mxI = 1000000000000000000000000000000 := by decide +kernel
/-- what a result of meas keeps -/
def MB : Option (Int × Int) → Prop
  | none => True
  | some (a, b) => 1 ≤ a ∧ a ≤ 401 ∧ 0 ≤ b ∧ b ≤ mxI
section
variable {k n : Nat}
def body4 : List Ts := [.asg (.n 5) (.call 3 [.var 2, .bin .Sub (.var 1) (.cst (.int 1))]), .iff (.cmp .Is (.var 5) (.cst .none)) [.ret (.cst .none)] [], .par [3, 4] [.e (.bin .Add (.var 3) (.ix (.var 5) (.cst (.int 0)))), .e (.bin .Add (.var 4) (.ix (.var 5) (.cst (.int 1))))], .iff (.or [.cmp .Gt (.var 3) (.glob 3), .cmp .Gt (.var 4) (.glob 1)]) [.ret (.cst .none)] []]
theorem sub1 (n : Nat) : ((n : Int) + 1) - 1 = n := by omega
theorem turn4 {K : Nat} {x p : PyData} {a b : Int} {s5 : Sl} {h : Sh} (hx : Cl K 3 [.d x, .d (.int n)] h = .ok (.d (encM (meas n x))) h) :
    evSs (callF (ΦT ds) (GT gs) 1000 K) (GT gs) 1000 body4 [.v (.d p), .v (.d (.int (n + 1))), .v (.d x), .v (.d (.int a)), .v (.d (.int b)), s5] h =
      match meas n x with
      | none => .ok (.rt (.d .none)) h
      | some (q, r) => if a + q > 400 ∨ b + r > mxI then .ok (.rt (.d .none)) h else .ok (.nx [.v (.d p), .v (.d (.int (n + 1))), .v (.d x), .v (.d (.int (a + q))), .v (.d (.int (b + r))), .v (.d (encM (some (q, r))))]) h := by
  have e1 : evE (callF (ΦT ds) (GT gs) 1000 K) (GT gs) (.call 3 [.var 2, .bin .Sub (.var 1) (.cst (.int 1))]) [.v (.d p), .v (.d (.int (n + 1))), .v (.d x), .v (.d (.int a)), .v (.d (.int b)), s5] h = .ok (.d (encM (meas n x))) h := by
    refine (e_call rfl).trans ?_
    rw [sub1]
    exact hx
  unfold body4
  refine (s_asg e1 rfl).trans ?_
  cases q : meas n x with
  | none => exact s_ifT rfl (s_ret rfl)
  | some p =>
    obtain ⟨q1, q2⟩ := p
    refine (s_ifF rfl).trans ((s_par rfl rfl).trans ?_)
    rw [mx]
    have test : tru (evE (callF (ΦT ds) (GT gs) 1000 K) (GT gs) (.or [.cmp .Gt (.var 3) (.glob 3), .cmp .Gt (.var 4) (.glob 1)]) [.v (.d p), .v (.d (.int (n + 1))), .v (.d x), .v (.d (.int (a + q1))), .v (.d (.int (b + q2))), .v (.d (encM (some (q1, q2))))] h) = .ok (decide (400 < a + q1) || decide (1000000000000000000000000000000 < b + q2)) h :=
      t_or (t_cmp rfl rfl rfl) fun _ => t_or1.trans (t_cmp rfl rfl rfl)
    dsimp only
    by_cases c : a + q1 > 400 ∨ b + q2 > 1000000000000000000000000000000
    · rw [if_pos c]
      refine s_ifT (h1 := h) (test.trans ?_) (s_ret rfl)
      rw [← Bool.decide_or, decide_eq_true c]
    · rw [if_neg c]
      refine s_ifF (h1 := h) (test.trans ?_)
      rw [← Bool.decide_or, decide_eq_false c]
theorem loop4 {K : Nat} {p : PyData} {h : Sh} : ∀ (xs : List PyData) (a b : Int) (s2 s5 : Sl), (∀ x ∈ xs, Cl K 3 [.d x, .d (.int n)] h = .ok (.d (encM (meas n x))) h) →
    (match measL n xs a b with
    | none => forLoop (evSs (callF (ΦT ds) (GT gs) 1000 K) (GT gs) 1000 body4) (.n 2) (xs.map .d) [.v (.d p), .v (.d (.int (n + 1))), s2, .v (.d (.int a)), .v (.d (.int b)), s5] h = .ok (.rt (.d .none)) h
    | some (a', b') => ∃ s2' s5', forLoop (evSs (callF (ΦT ds) (GT gs) 1000 K) (GT gs) 1000 body4) (.n 2) (xs.map .d) [.v (.d p), .v (.d (.int (n + 1))), s2, .v (.d (.int a)), .v (.d (.int b)), s5] h = .ok (.nx [.v (.d p), .v (.d (.int (n + 1))), s2', .v (.d (.int a')), .v (.d (.int b')), s5']) h)
  | [], a, b, s2, s5, _ => by
    rw [measL]
    exact ⟨s2, s5, rfl⟩
  | x :: xs, a, b, s2, s5, hx => by
    have t := turn4 (p := p) (a := a) (b := b) (s5 := s5) (hx x List.mem_cons_self)
    have fc : forLoop (evSs (callF (ΦT ds) (GT gs) 1000 K) (GT gs) 1000 body4) (.n 2) ((x :: xs).map .d) [.v (.d p), .v (.d (.int (n + 1))), s2, .v (.d (.int a)), .v (.d (.int b)), s5] h = _ := fl_cons rfl
    rw [measL]
    cases q : meas n x with
    | none =>
      rw [q] at t
      dsimp only at t ⊢
      rw [fc]
      show R.bind (evSs (callF (ΦT ds) (GT gs) 1000 K) (GT gs) 1000 body4 [.v (.d p), .v (.d (.int (n + 1))), .v (.d x), .v (.d (.int a)), .v (.d (.int b)), s5] h) _ = _
      rw [t]
      rfl
    | some r =>
      obtain ⟨q1, q2⟩ := r
      rw [q] at t
      dsimp only at t ⊢
      by_cases c : a + q1 > 400 ∨ b + q2 > mxI
      · rw [if_pos c] at t ⊢
        dsimp only
        rw [fc]
        show R.bind (evSs (callF (ΦT ds) (GT gs) 1000 K) (GT gs) 1000 body4 [.v (.d p), .v (.d (.int (n + 1))), .v (.d x), .v (.d (.int a)), .v (.d (.int b)), s5] h) _ = _
        rw [t]
        rfl
      · rw [if_neg c] at t ⊢
        have ih := loop4 (p := p) xs (a + q1) (b + q2) (.v (.d x)) (.v (.d (encM (some (q1, q2))))) fun y m => hx y (List.mem_cons_of_mem _ m)
        have step : forLoop (evSs (callF (ΦT ds) (GT gs) 1000 K) (GT gs) 1000 body4) (.n 2) ((x :: xs).map .d) [.v (.d p), .v (.d (.int (n + 1))), s2, .v (.d (.int a)), .v (.d (.int b)), s5] h =
            forLoop (evSs (callF (ΦT ds) (GT gs) 1000 K) (GT gs) 1000 body4) (.n 2) (xs.map .d) [.v (.d p), .v (.d (.int (n + 1))), .v (.d x), .v (.d (.int (a + q1))), .v (.d (.int (b + q2))), .v (.d (encM (some (q1, q2))))] h := by
          rw [fc]
          show R.bind (evSs (callF (ΦT ds) (GT gs) 1000 K) (GT gs) 1000 body4 [.v (.d p), .v (.d (.int (n + 1))), .v (.d x), .v (.d (.int a)), .v (.d (.int b)), s5] h) _ = _
          rw [t]
          rfl
        rw [step]
        exact ih
def MOk (r : Option (Int × Int)) : Prop := ∀ a b, r = some (a, b) → 1 ≤ a ∧ a ≤ 400 ∧ 0 ≤ b ∧ b ≤ mxI
mutual
theorem meas_ok : ∀ (n : Nat) (d : PyData), MOk (meas n d)
  | 0, d => fun a b e => by rw [meas] at e; cases e
  | n + 1, d => fun a b e => by
    unfold meas at e
    split at e
    · cases e
      exact ⟨by decide, by decide, by decide, by rw [mx]; decide⟩
    · split at e
      · split at e
        · split at e
          · cases e
          · exact measL_ok n _ 1 0 ⟨by decide, by decide, by decide, by rw [mx]; decide⟩ a b e
        · cases e
      · split at e
        · split at e
          · rename_i hb
            obtain ⟨_, hb1, hb2⟩ := btw_int hb
            split at e
            · cases e
            · rename_i a' b' em
              obtain ⟨h1, h2, h3, h4⟩ := meas_ok n _ _ _ em
              split at e
              · cases e
              · rename_i hc
                cases e
                have hz := Int.mul_nonneg hb1 h3
                rw [not_or] at hc
                exact ⟨by omega, by omega, hz, by omega⟩
          · cases e
        · cases e
      · cases e
theorem measL_ok : ∀ (n : Nat) (xs : List PyData) (a b : Int), (1 ≤ a ∧ a ≤ 400 ∧ 0 ≤ b ∧ b ≤ mxI) → MOk (measL n xs a b)
  | _, [], a, b, hh => fun x y e => by
    rw [measL] at e
    cases e
    exact hh
  | n, x :: xs, a, b, hh => fun u v e => by
    rw [measL] at e
    split at e
    · cases e
    · rename_i p q em
      obtain ⟨h1, h2, h3, h4⟩ := meas_ok n x _ _ em
      split at e
      · cases e
      · rename_i hc
        rw [not_or] at hc
        exact measL_ok n xs _ _ ⟨by omega, by omega, by omega, by omega⟩ u v e
end
abbrev Cf84 (K : Nat) : Mi.Cf := callF (ΦT ds) (GT gs) 1000 K
abbrev E84 (K : Nat) := evE (Cf84 K) (GT gs)
theorem meas_other {n : Nat} {d : PyData} (hb : btw (0 - mxI) mxI d = false) (h : ∀ w r, d ≠ .tuple (.str w :: r)) : meas (n + 1) d = none := by
  unfold meas
  rw [hb, if_neg Bool.false_ne_true]
  split
  · exact (h _ _ rfl).elim
  · exact (h _ _ rfl).elim
  · rfl
theorem cmp_in {K : Nat} {env : En} {h : Sh} {a : Te} {w : Str} {g : Nat} {ys : List Str} (e1 : E84 K a env h = .ok (.d (.str w)) h) (e2 : GT gs g = some (.tuple (ys.map .str))) : tru (E84 K (.cmp .In a (.glob g)) env h) = .ok (decide (w ∈ ys)) h :=
  t_cmp e1 (e_glob e2) (cmp_inT.trans in_str)
/-- the parts, once measured is known a level below -/
theorem p4' {n K : Nat} {d : PyData} {h : Sh} (hx : ∀ x, Cl K 3 [.d x, .d (.int n)] h = .ok (.d (encM (meas n x))) h) :
    Cl (K + 1) 4 [.d d, .d (.int ((n + 1 : Nat) : Int))] h = .ok (.d (encM (match d with
      | .tuple ps => if ps.length > 400 then none else measL n ps 1 0
      | _ => none))) h := by
  rw [Cl, call_at φ4 rfl]
  refine fin_end ?_
  cases d with
  | tuple ps =>
    have tl : tru (E84 K (.cmp .Gt (.bi .len [.var 0]) (.glob 2)) [.v (.d (.tuple ps)), .v (.d (.int ((n + 1 : Nat) : Int))), .no, .no, .no, .no] h) = .ok (decide ((400 : Int) < ps.length)) h := t_cmp rfl (e_glob g2) rfl
    dsimp only
    by_cases c : ps.length > 400
    · rw [if_pos c]
      exact s_ifT (h1 := h) ((t_orF (t_nF (t_b rfl))).trans (t_or1.trans (tl.trans (by rw [decide_eq_true (by omega)])))) (s_ret rfl)
    · rw [if_neg c]
      refine (s_ifF (h1 := h) ((t_orF (t_nF (t_b rfl))).trans (t_or1.trans (tl.trans (by rw [decide_eq_false (by omega)]))))).trans ((s_asg rfl rfl).trans ?_)
      have lp := loop4 (p := .tuple ps) (h := h) (n := n) (K := K) ps 1 0 .no .no fun x _ => hx x
      cases q : measL n ps 1 0 with
      | none =>
        rw [q] at lp
        exact s_forR rfl rfl lp
      | some r =>
        obtain ⟨a, b⟩ := r
        rw [q] at lp
        obtain ⟨s2, s5, lp⟩ := lp
        exact (s_for rfl rfl lp).trans (s_ret rfl)
  | _ => exact s_ifT (h1 := h) (t_orT (t_nT (t_b rfl))) (s_ret rfl)
theorem lim_ok {i : Int} (h0 : 0 ≤ i) (h : i ≤ mxI) : okI i = true := by
  unfold okI
  refine decide_eq_true ?_
  have h2 : mxI.natAbs < LIM := by rw [mx]; unfold LIM; decide +kernel
  have h3 : i.natAbs ≤ mxI.natAbs := by omega
  omega
theorem p5' {n K : Nat} {c x : PyData} {h : Sh} (hx : Cl (K + 2) 3 [.d x, .d (.int n)] h = .ok (.d (encM (meas n x))) h) :
    Cl (K + 3) 5 [.d c, .d x, .d (.int ((n + 1 : Nat) : Int))] h = .ok (.d (encM (if btw 0 mxI c then (match meas n x with
      | none => none
      | some (a, b) => if a = 400 ∨ intOf c * b > mxI then none else some (1 + a, intOf c * b)) else none))) h := by
  rw [Cl, call_at φ5 rfl]
  refine fin_end ?_
  have tb : tru (E84 (K + 2) (.call 1 [.var 0, .cst (.int 0), .glob 1]) [.v (.d c), .v (.d x), .v (.d (.int ((n + 1 : Nat) : Int))), .no] h) = .ok (btw 0 mxI c) h := by
    refine t_b ((e_call rfl).trans ?_)
    rw [mx]
    exact p1 (k := K) c _ _ h
  cases hb : btw 0 mxI c with
  | false =>
    rw [hb] at tb
    exact s_ifT (t_nT tb) (s_ret rfl)
  | true =>
    rw [hb] at tb
    obtain ⟨ec, c0, c1⟩ := btw_int hb
    have e1 : E84 (K + 2) (.call 3 [.var 1, .bin .Sub (.var 2) (.cst (.int 1))]) [.v (.d c), .v (.d x), .v (.d (.int ((n + 1 : Nat) : Int))), .no] h = .ok (.d (encM (meas n x))) h := by
      refine (e_call rfl).trans ?_
      have : ((n + 1 : Nat) : Int) - 1 = n := by omega
      rw [this]
      exact hx
    refine (s_ifF (t_nF tb)).trans ((s_asg e1 rfl).trans ?_)
    rw [if_pos rfl]
    cases q : meas n x with
    | none => exact s_ifT (t_orT (t_cmp rfl rfl rfl)) (s_ret rfl)
    | some r =>
      obtain ⟨a, b⟩ := r
      obtain ⟨h1, h2, h3, h4⟩ := meas_ok n x a b q
      have env : ∃ E : En, E = [.v (.d (.int (intOf c))), .v (.d x), .v (.d (.int ((n + 1 : Nat) : Int))), .v (.d (.tuple [.int a, .int b]))] := ⟨_, rfl⟩
      have ee : ([.v (.d c), .v (.d x), .v (.d (.int ((n + 1 : Nat) : Int))), .no] : En).set 3 (.v (.d (encM (some (a, b))))) = [.v (.d (.int (intOf c))), .v (.d x), .v (.d (.int ((n + 1 : Nat) : Int))), .v (.d (.tuple [.int a, .int b]))] := by rw [← ec]; rfl
      rw [ee]
      have mul : E84 (K + 2) (.bin .Mult (.var 0) (.ix (.var 3) (.cst (.int 1)))) [.v (.d (.int (intOf c))), .v (.d x), .v (.d (.int ((n + 1 : Nat) : Int))), .v (.d (.tuple [.int a, .int b]))] h = .ok (.d (.int (intOf c * b))) h := by
        refine e_bin rfl rfl ?_
        show (if okI (intOf c) && okI b then some (PyData.int (intOf c * b)) else none) = _
        rw [lim_ok c0 c1, lim_ok h3 h4]
        rfl
      have test : tru (E84 (K + 2) (.or [.cmp .Is (.var 3) (.cst .none), .cmp .Eq (.ix (.var 3) (.cst (.int 0))) (.glob 3), .cmp .Gt (.bin .Mult (.var 0) (.ix (.var 3) (.cst (.int 1)))) (.glob 1)]) [.v (.d (.int (intOf c))), .v (.d x), .v (.d (.int ((n + 1 : Nat) : Int))), .v (.d (.tuple [.int a, .int b]))] h) = .ok (decide (a = 400) || decide (mxI < intOf c * b)) h := by
        refine (t_orF (t_cmp rfl rfl rfl)).trans (t_or (t_cmp rfl (e_glob g3) (cmp_eq.trans eq_int)) fun _ => t_or1.trans (t_cmp mul (e_glob g1) ?_))
        rw [mx]; rfl
      rw [← Bool.decide_or] at test
      dsimp only
      by_cases cc : a = 400 ∨ intOf c * b > mxI
      · rw [if_pos cc]
        exact s_ifT (test.trans (by rw [decide_eq_true (show a = 400 ∨ mxI < intOf c * b from cc)])) (s_ret rfl)
      · rw [if_neg cc]
        refine (s_ifF (test.trans (by rw [decide_eq_false (show ¬ (a = 400 ∨ mxI < intOf c * b) from cc)]))).trans (s_ret ?_)
        exact e_tup (es_cons rfl (es_cons mul es_nil)) rfl (by show 2 ≤ SZ; decide)
theorem p3 : ∀ (n : Nat) (d : PyData) (k : Nat) (h : Sh), Cl (k + 2 * n + 3) 3 [.d d, .d (.int n)] h = .ok (.d (encM (meas n d))) h
  | 0, d, k, h => by
    rw [Cl, call_at φ3 rfl]
    refine fin_end (s_ifT (h1 := h) (t_cmp rfl rfl rfl) ((s_ret rfl).trans ?_))
    unfold meas
    rfl
  | n + 1, d, k, h => by
    rw [Cl, call_at φ3 rfl]
    refine fin_end ?_
    have eK : k + 2 * (n + 1) + 2 = (k + 2 * n + 3) + 1 := by omega
    show evSs (Cf84 (k + 2 * (n + 1) + 2)) (GT gs) 1000 f3.body [.v (.d d), .v (.d (.int ((n + 1 : Nat) : Int)))] h = _
    rw [eK]
    have z0 : decide (((n + 1 : Nat) : Int) = 0) = false := decide_eq_false (by omega)
    refine (s_ifF (h1 := h) (t_cmp rfl rfl (cmp_eq.trans (eq_int.trans (by rw [z0]))))).trans ?_
    have tb : tru (E84 (k + 2 * n + 3 + 1) (.call 1 [.var 0, .bin .Sub (.cst (.int 0)) (.glob 0), .glob 0]) [.v (.d d), .v (.d (.int ((n + 1 : Nat) : Int)))] h) = .ok (btw (0 - mxI) mxI d) h := by
      refine t_b ((e_call rfl).trans ?_)
      rw [mx]
      exact p1 (k := k + 2 * n + 2) d _ _ h
    cases hb : btw (0 - mxI) mxI d with
    | true =>
      rw [hb] at tb
      refine s_ifT tb ((s_ret rfl).trans ?_)
      unfold meas
      rw [hb]
      rfl
    | false =>
      rw [hb] at tb
      refine (s_ifF tb).trans ?_
      have other : (∀ w r, d ≠ .tuple (.str w :: r)) → tru (E84 (k + 2 * n + 3 + 1) (.or [.not (.isi (.var 0) [.tuple]), .cmp .Eq (.var 0) (.tup []), .not (.isi (.ix (.var 0) (.cst (.int 0))) [.str])]) [.v (.d d), .v (.d (.int ((n + 1 : Nat) : Int)))] h) = .ok true h := fun hn => by
        cases d with
        | tuple xs =>
          refine (t_orF (h1 := h) (t_nF (t_b rfl))).trans ?_
          cases xs with
          | nil => exact t_orT (t_cmp rfl rfl rfl)
          | cons x xs =>
            refine (t_orF (h1 := h) (t_cmp rfl rfl rfl)).trans (t_or1.trans ?_)
            cases x with
            | str w => exact (hn w xs rfl).elim
            | _ => exact t_nT (t_isi (e_ix rfl rfl ix_0) rfl)
        | _ => exact t_orT (t_nT (t_b rfl))
      by_cases hd : ∃ w r, d = .tuple (.str w :: r)
      · obtain ⟨w, r, rfl⟩ := hd
        have first : E84 (k + 2 * n + 3 + 1) (.ix (.var 0) (.cst (.int 0))) [.v (.d (.tuple (.str w :: r))), .v (.d (.int ((n + 1 : Nat) : Int)))] h = .ok (.d (.str w)) h := e_ix rfl rfl ix_0
        refine (s_ifF (h1 := h) ((t_orF (t_nF (t_b rfl))).trans ((t_orF (t_cmp rfl rfl rfl)).trans (t_or1.trans (t_nF (t_isi first rfl)))))).trans ?_
        have len : ∀ m : Nat, tru (E84 (k + 2 * n + 3 + 1) (.cmp .Eq (.bi .len [.var 0]) (.cst (.int m))) [.v (.d (.tuple (.str w :: r))), .v (.d (.int ((n + 1 : Nat) : Int)))] h) = .ok (decide ((PyData.str w :: r).length = m)) h := fun m => t_cmp rfl rfl (cmp_eq.trans len_eq)
        have t4 : tru (E84 (k + 2 * n + 3 + 1) (.and [.cmp .In (.ix (.var 0) (.cst (.int 0))) (.glob 5), .cmp .Eq (.bi .len [.var 0]) (.cst (.int 2))]) [.v (.d (.tuple (.str w :: r))), .v (.d (.int ((n + 1 : Nat) : Int)))] h) = .ok (decide (w ∈ [("seq" : Str), "par"]) && decide ((PyData.str w :: r).length = 2)) h :=
          t_and (cmp_in first g5) fun _ => t_and1.trans (len 2)
        have t5 : tru (E84 (k + 2 * n + 3 + 1) (.and [.cmp .In (.ix (.var 0) (.cst (.int 0))) (.glob 6), .cmp .Eq (.bi .len [.var 0]) (.cst (.int 3))]) [.v (.d (.tuple (.str w :: r))), .v (.d (.int ((n + 1 : Nat) : Int)))] h) = .ok (decide (w ∈ [("repeat" : Str), "copies"]) && decide ((PyData.str w :: r).length = 3)) h :=
          t_and (cmp_in first g6) fun _ => t_and1.trans (len 3)
        have r4 := fun d => p4' (n := n) (K := k + 2 * n + 3) (d := d) (h := h) fun x => p3 n x k h
        have r5 := fun c x => p5' (n := n) (K := k + 2 * n + 1) (c := c) (x := x) (h := h) (p3 n x k h)
        by_cases m4 : w ∈ [("seq" : Str), "par"] ∧ (PyData.str w :: r).length = 2
        · rw [decide_eq_true m4.1, decide_eq_true m4.2] at t4
          obtain ⟨y, rfl⟩ : ∃ y, r = [y] := by
            rcases r with _ | ⟨y, _ | ⟨z, q⟩⟩
            · cases m4.2
            · exact ⟨y, rfl⟩
            · cases m4.2
          refine s_ifT t4 (s_ret ((e_call (es_cons (e_ix rfl rfl ix_1) (es_cons rfl es_nil))).trans ((r4 y).trans ?_)))
          have mw : w = ("seq" : Str) ∨ w = ("par" : Str) := by simpa using m4.1
          unfold meas
          rw [hb, if_neg Bool.false_ne_true]
          cases y with
          | tuple ps => dsimp only; rw [if_pos mw]
          | _ => rfl
        · refine (s_ifF (t4.trans (by rw [← Bool.decide_and, decide_eq_false m4]))).trans ?_
          by_cases m5 : w ∈ [("repeat" : Str), "copies"] ∧ (PyData.str w :: r).length = 3
          · rw [decide_eq_true m5.1, decide_eq_true m5.2] at t5
            obtain ⟨c, x, rfl⟩ : ∃ c x, r = [c, x] := by
              rcases r with _ | ⟨y, _ | ⟨z, _ | ⟨u, q⟩⟩⟩
              · cases m5.2
              · cases m5.2
              · exact ⟨y, z, rfl⟩
              · cases m5.2
            refine s_ifT t5 (s_ret ((e_call (es_cons (e_ix rfl rfl ix_1) (es_cons (e_ix rfl rfl ix_2) (es_cons rfl es_nil)))).trans ((r5 c x).trans ?_)))
            have mw : w = ("repeat" : Str) ∨ w = ("copies" : Str) := by simpa using m5.1
            have em : meas (n + 1) (.tuple [.str w, c, x]) = (if btw 0 mxI c then (match meas n x with
              | none => none
              | some (a, b) => if a = 400 ∨ intOf c * b > mxI then none else some (1 + a, intOf c * b)) else none) := by
              rw [meas.eq_def]
              dsimp only
              rw [hb, if_neg Bool.false_ne_true]
              cases c <;> exact if_pos mw
            rw [em]
          · refine (s_ifF (t5.trans (by rw [← Bool.decide_and, decide_eq_false m5]))).trans (s_ret ?_)
            have e : meas (n + 1) (.tuple (.str w :: r)) = none := by
              unfold meas
              rw [hb, if_neg Bool.false_ne_true]
              split
              · rename_i w' ps hq
                cases hq
                rw [if_neg fun z => m4 ⟨by simpa using z, rfl⟩]
              · rename_i w' c x hq
                cases hq
                rw [if_neg fun z => m5 ⟨by simpa using z, rfl⟩]
              · rfl
            rw [e]
            rfl
      · have hn : ∀ w r, d ≠ .tuple (.str w :: r) := fun w r e => hd ⟨w, r, e⟩
        refine s_ifT (other hn) ((s_ret rfl).trans ?_)
        rw [meas_other hb hn]
        rfl
end
end Tx
namespace Tx
open PySem Mi
/-! ### expressions, their jobs -/
inductive Ex where
  | load (v s : Int)
  | app (op : Str) (ps : List Ex) (s : Int)
  | each (op : Str) (c : Int) (e : Ex) (s : Int)
  | fold (op : Str) (c : Int) (e : Ex) (s : Int)
def sz : Ex → Int
  | .load _ s => s
  | .app _ _ s => s
  | .each _ _ _ s => s
  | .fold _ _ _ s => s
def szs : List Ex → Int
  | [] => 0
  | e :: r => sz e + szs r
mutual
def enX : Ex → PyData
  | .load v s => .tuple [.str "load", .int v, .int s]
  | .app op ps s => .tuple [.str "apply", .str op, .tuple (enXs ps), .int s]
  | .each op c e s => .tuple [.str "each", .str op, .int c, enX e, .int s]
  | .fold op c e s => .tuple [.str "fold", .str op, .int c, enX e, .int s]
def enXs : List Ex → List PyData
  | [] => []
  | e :: r => enX e :: enXs r
end
mutual
def job : Ex → PyData
  | .load _ s => .int s
  | .app _ ps s => .tuple [.str "seq", .tuple [.tuple [.str "par", .tuple (jobs ps)], .int s, .int (0 - szs ps)]]
  | .each _ c e s => .tuple [.str "seq", .tuple [.tuple [.str "copies", .int c, job e], .int s, .int (0 - c * sz e)]]
  | .fold _ c e s => .tuple [.str "seq", .tuple [.int s, .tuple [.str "repeat", .int c, .tuple [.str "seq", .tuple [job e, .int (0 - sz e)]]]]]
def jobs : List Ex → List PyData
  | [] => []
  | e :: r => job e :: jobs r
end
mutual
/-- nodes of the job -/
def jn : Ex → Nat
  | .load _ _ => 1
  | .app _ ps _ => 4 + jns ps
  | .each _ _ e _ => 4 + jn e
  | .fold _ _ e _ => 5 + jn e
def jns : List Ex → Nat
  | [] => 0
  | e :: r => jn e + jns r
/-- levels -/
def lv : Ex → Nat
  | .load _ _ => 1
  | .app _ ps _ => 1 + lvs ps
  | .each _ _ e _ => 1 + lv e
  | .fold _ _ e _ => 1 + lv e
def lvs : List Ex → Nat
  | [] => 0
  | e :: r => max (lv e) (lvs r)
end
theorem lvs_mem : ∀ {ps : List Ex} {e : Ex}, e ∈ ps → lv e ≤ lvs ps
  | p :: ps, e, m => by
    rw [lvs]
    rcases List.mem_cons.mp m with rfl | m
    · exact Nat.le_max_left _ _
    · exact Nat.le_trans (lvs_mem m) (Nat.le_max_right _ _)
theorem jobs_map : ∀ ps : List Ex, jobs ps = ps.map job
  | [] => by rw [jobs]; rfl
  | e :: r => by rw [jobs, jobs_map r]; rfl
theorem enXs_map : ∀ ps : List Ex, enXs ps = ps.map enX
  | [] => by rw [enXs]; rfl
  | e :: r => by rw [enXs, enXs_map r]; rfl
def ops : List Str := ["add", "mul", "min", "max"]
def isop : PyData → Bool
  | .str w => decide (w ∈ ops)
  | _ => false
def mxS : Int := 1000000000000
def issz (d : PyData) : Bool := btw 0 mxS d
theorem φ12 : ΦT ds 12 = some f12 := rfl
theorem φ13 : ΦT ds 13 = some f13 := rfl
theorem φ14 : ΦT ds 14 = some f14 := rfl
theorem φ17 : ΦT ds 17 = some f17 := rfl
theorem g7 : GT gs 7 = some (.int 997) := rfl
theorem g8 : GT gs 8 = some (.int 1000000000000) := rfl
theorem g9 : GT gs 9 = some (.tuple (ops.map .str)) := rfl
section
variable {k : Nat} {h : Sh}
theorem p12 {d : PyData} : Cl (k + 1) 12 [.d d] h = .ok (.d (.bool (isop d))) h := by
  rw [Cl, call_at φ12 rfl]
  refine fin_end (s_ret ?_)
  cases d with
  | str w => exact e_andB (v := true) rfl fun _ => e_and1.trans (e_cmp rfl (e_glob g9) (cmp_inT.trans in_str))
  | _ => exact e_andB (v := false) (w := true) rfl fun z => nomatch z
theorem p13 {d : PyData} : Cl (k + 3) 13 [.d d] h = .ok (.d (.bool (issz d))) h := by
  rw [Cl, call_at φ13 rfl]
  exact fin_end (s_ret ((e_call (es_cons rfl (es_cons rfl (es_cons (e_glob g8) es_nil)))).trans (p1 (k := k) d _ _ h)))
/-- sums of ints -/
theorem ints_map : ∀ ns : List Int, intsOf (ns.map .int) = some ns
  | [] => rfl
  | n :: r => by rw [List.map_cons, intsOf, ints_map r]; rfl
mutual
def WF : Ex → Prop
  | .load v s => (0 ≤ v ∧ v ≤ 996) ∧ 0 ≤ s ∧ s ≤ mxS
  | .app op ps s => op ∈ ops ∧ (1 ≤ ps.length ∧ ps.length ≤ 400) ∧ WFs ps ∧ 0 ≤ s ∧ s ≤ mxS
  | .each op c e s => op ∈ ops ∧ (1 ≤ c ∧ c ≤ mxI) ∧ WF e ∧ 0 ≤ s ∧ s ≤ mxS
  | .fold op c e s => op ∈ ops ∧ (1 ≤ c ∧ c ≤ mxI) ∧ WF e ∧ 0 ≤ s ∧ s ≤ mxS
def WFs : List Ex → Prop
  | [] => True
  | e :: r => WF e ∧ WFs r
end
theorem WFs_mem : ∀ {ps : List Ex} {e : Ex}, WFs ps → e ∈ ps → WF e
  | p :: ps, e, w, m => by
    rw [WFs] at w
    rcases List.mem_cons.mp m with rfl | m
    · exact w.1
    · exact WFs_mem w.2 m
theorem small400 {n : Nat} (h : n ≤ 400) : n ≤ SZ := Nat.le_trans h (by decide)
theorem in_str2 {w : Str} : inD (.str w) [.str "seq", .str "par"] = some (decide (w ∈ [("seq" : Str), "par"])) := in_str (ys := ["seq", "par"])
theorem sum_rec {K : Nat} {env : En} {h1 : Sh} {zs : List (PyData × Int)} (hl : zs.length ≤ SZ) (e : E84 K (.var 1) env h = .ok (.d (.tuple (zs.map (·.1)))) h) (hw : 2 < env.length)
    (hp : ∀ z ∈ zs, Cl K 14 [.d z.1] h = .ok (.d (.int z.2)) h) : E84 K (.bin .Add (.cst (.int 1)) (.bi .sum [.ofL (.comp (.call 14 [.var 2]) (.n 2) .seq [.var 1] [])])) env h = .ok (.d (.int (1 + (zs.map (·.2)).sum))) h := by
  have cz := comp_zip (C := Cf84 K) (G := GT gs) (tg := .n 2) (elt := E84 K (.call 14 [.var 2])) (env := wipeE [2] env) (zs.map fun z => (z.1, PyData.int z.2)) (h := h) fun z m => by
    obtain ⟨z', m', rfl⟩ := List.mem_map.mp m
    refine ⟨_, rfl, (e_call (es_cons (x := .d z'.1) ?_ es_nil)).trans (hp z' m')⟩
    rw [evE]
    show (match (((wipeE [2] env).set 2 (.v (.d z'.1)))[2]? : Option Sl) with | some (.v x) => R.ok x h | _ => .no) = _
    rw [List.getElem?_set_self (by show 2 < (env.set 2 .no).length; rw [List.length_set]; exact hw)]
  have e1 : (zs.map fun z => (z.1, PyData.int z.2)).map (·.1) = zs.map (·.1) := by rw [List.map_map]; rfl
  have e2 : (zs.map fun z => (z.1, PyData.int z.2)).map (·.2) = (zs.map (·.2)).map .int := by rw [List.map_map, List.map_map]; rfl
  rw [e1, e2] at cz
  refine e_bin rfl (e_bi (es_cons (e_comp (es_cons e es_nil) rfl (by rw [List.length_map]; exact hl) cz) es_nil) rfl (z := .int (zs.map (·.2)).sum) ?_) rfl
  show (intsOf ((zs.map (·.2)).map .int)).map _ = _
  rw [ints_map]
  rfl
theorem n_leaf {i : Int} : Cl (k + 1) 14 [.d (.int i)] h = .ok (.d (.int 1)) h := by
  rw [Cl, call_at φ14 rfl]
  exact fin_end (s_ifT (h1 := h) (t_nT (t_b rfl)) (s_ret rfl))
theorem n_grp {K : Nat} {w : Str} {zs : List (PyData × Int)} (hw : w ∈ [("seq" : Str), "par"]) (hl : zs.length ≤ SZ) (hp : ∀ z ∈ zs, Cl K 14 [.d z.1] h = .ok (.d (.int z.2)) h) :
    Cl (K + 1) 14 [.d (.tuple [.str w, .tuple (zs.map (·.1))])] h = .ok (.d (.int (1 + (zs.map (·.2)).sum))) h := by
  rw [Cl, call_at φ14 rfl]
  refine fin_end ?_
  have q := sum_rec (K := K) (h := h) (h1 := h) (zs := zs) (env := [.v (.d (.tuple [.str w, .tuple (zs.map (·.1))])), .v (.d (.tuple (zs.map (·.1)))), .no]) hl rfl (show (2 : Nat) < 3 by decide) hp
  refine (s_ifF (h1 := h) (t_nF (t_b rfl))).trans ((s_asg (v := .d (.tuple (zs.map (·.1)))) (h1 := h) ?_ rfl).trans (s_ret q))
  refine (e_ite (v := true) (h1 := h) (t_cmp (e_ix rfl rfl ix_0) rfl (cmp_inT.trans (in_str2.trans (by rw [decide_eq_true hw]))))).trans ?_
  rw [if_pos rfl]
  exact e_ix rfl rfl ix_1
theorem n_mul {K : Nat} {w : Str} {v : Int} {c x : PyData} (hw : w ∉ [("seq" : Str), "par"]) (hp : Cl K 14 [.d x] h = .ok (.d (.int v)) h) :
    Cl (K + 1) 14 [.d (.tuple [.str w, c, x])] h = .ok (.d (.int (1 + v))) h := by
  rw [Cl, call_at φ14 rfl]
  refine fin_end ?_
  have q := sum_rec (K := K) (h := h) (h1 := h) (zs := [(x, v)]) (env := [.v (.d (.tuple [.str w, c, x])), .v (.d (.tuple [x])), .no]) (show 1 ≤ SZ by decide) rfl (show (2 : Nat) < 3 by decide) fun z m => by
    rw [List.mem_singleton.mp m]; exact hp
  refine (s_ifF (h1 := h) (t_nF (t_b rfl))).trans ((s_asg (v := .d (.tuple [x])) (h1 := h) ?_ rfl).trans (s_ret (q.trans ?_)))
  · refine (e_ite (v := false) (h1 := h) (t_cmp (e_ix rfl rfl ix_0) rfl (cmp_inT.trans (in_str2.trans (by rw [decide_eq_false hw]))))).trans ?_
    rw [if_neg Bool.false_ne_true]
    rfl
  · simp
theorem n_grp3 {K : Nat} {w : Str} {x : PyData} {a : Int} {s t : Int} (hw : w ∈ [("seq" : Str), "par"]) (hx : Cl (K + 1) 14 [.d x] h = .ok (.d (.int a)) h) : Cl (K + 1 + 1) 14 [.d (.tuple [.str w, .tuple [x, .int s, .int t]])] h = .ok (.d (.int (3 + a))) h := by
  have q := n_grp (K := K + 1) (h := h) (w := w) (zs := [(x, a), (.int s, 1), (.int t, 1)]) hw (show 3 ≤ SZ by decide) fun z m => by
    simp only [List.mem_cons, List.not_mem_nil, or_false] at m
    rcases m with rfl | rfl | rfl
    · exact hx
    · exact n_leaf
    · exact n_leaf
  refine q.trans ?_
  simp only [List.map_cons, List.map_nil, List.sum_cons, List.sum_nil]
  congr 3
  omega
theorem jns_sum : ∀ ps : List Ex, (((ps.map fun e => (job e, (jn e : Int))).map (·.2)).sum : Int) = (jns ps : Int)
  | [] => by rw [jns]; rfl
  | e :: r => by
    have := jns_sum r
    simp only [List.map_cons, List.sum_cons] at this ⊢
    rw [this, jns]
    omega
theorem lv_pos (e : Ex) : 1 ≤ lv e := by cases e <;> rw [lv] <;> omega
theorem lvs_tail {p : Ex} {ps : List Ex} : lvs ps ≤ lvs (p :: ps) := by rw [lvs]; exact Nat.le_max_right _ _
mutual
theorem p14 : ∀ (e : Ex) (k : Nat), WF e → Cl (k + 3 * lv e) 14 [.d (job e)] h = .ok (.d (.int (jn e))) h
  | .load v s, k, w => by
    rw [job, lv]
    exact n_leaf (k := k + 2)
  | .app op ps s, k, w => by
    rw [WF] at w
    obtain ⟨_, ⟨_, l⟩, wp, _⟩ := w
    rw [job, jobs_map, lv, show k + 3 * (1 + lvs ps) = (k + 1 + 3 * lvs ps) + 1 + 1 by omega]
    have q3 : Cl (k + 1 + 3 * lvs ps + 1) 14 [.d (.tuple [.str "par", .tuple (ps.map job)])] h = .ok (.d (.int (1 + (jns ps : Int)))) h := by
      have q' := p14s ps (k + 1) wp
      have q2' := n_grp (K := k + 1 + 3 * lvs ps) (h := h) (w := "par") (zs := ps.map fun e => (job e, (jn e : Int))) (by simp) (by rw [List.length_map]; exact small400 l) fun z m => by
        obtain ⟨e, m', rfl⟩ := List.mem_map.mp m
        exact q' e m'
      rw [jns_sum, List.map_map] at q2'
      exact q2'
    refine (n_grp3 (by simp) q3).trans ?_
    rw [jn]
    congr 3
    omega
  | .each op c e s, k, w => by
    rw [WF] at w
    have q := p14 e (k + 1) w.2.2.1
    rw [job, lv, show k + 3 * (1 + lv e) = (k + 1 + 3 * lv e) + 1 + 1 by omega]
    refine (n_grp3 (by simp) (n_mul (by decide) q)).trans ?_
    rw [jn]
    congr 3
    omega
  | .fold op c e s, k, w => by
    rw [WF] at w
    have q := p14 e k w.2.2.1
    rw [job, lv, show k + 3 * (1 + lv e) = (k + 3 * lv e) + 1 + 1 + 1 by omega]
    have l0 : ∀ i : Int, Cl (k + 3 * lv e) 14 [.d (.int i)] h = .ok (.d (.int 1)) h := fun i => by
      have lp := lv_pos e
      obtain ⟨m, em⟩ : ∃ m, k + 3 * lv e = m + 1 := ⟨k + 3 * lv e - 1, by omega⟩
      rw [em]
      exact n_leaf
    have q2 := n_grp (K := k + 3 * lv e) (h := h) (w := "seq") (zs := [(job e, (jn e : Int)), (.int (0 - sz e), 1)]) (by simp) (show 2 ≤ SZ by decide) fun z m => by
      simp only [List.mem_cons, List.not_mem_nil, or_false] at m
      rcases m with rfl | rfl
      · exact q
      · exact l0 _
    have q3 := n_mul (K := k + 3 * lv e + 1) (h := h) (w := "repeat") (c := .int c) (by decide) q2
    have q4 := n_grp (K := k + 3 * lv e + 1 + 1) (h := h) (w := "seq") (zs := [(.int s, 1), (.tuple [.str "repeat", .int c, .tuple [.str "seq", .tuple ([(job e, (jn e : Int)), (.int (0 - sz e), 1)].map (·.1))]], _)]) (by simp) (show 2 ≤ SZ by decide) fun z m => by
      simp only [List.mem_cons, List.not_mem_nil, or_false] at m
      rcases m with rfl | rfl
      · exact n_leaf
      · exact q3
    refine q4.trans ?_
    rw [jn]
    simp only [List.map_cons, List.map_nil, List.sum_cons, List.sum_nil]
    congr 3
    omega
theorem p14s : ∀ (ps : List Ex) (k : Nat), WFs ps → ∀ e ∈ ps, Cl (k + 3 * lvs ps) 14 [.d (job e)] h = .ok (.d (.int (jn e))) h
  | [], _, _, e, m => (List.not_mem_nil m).elim
  | p :: ps, k, w, e, m => by
    rw [WFs] at w
    rcases List.mem_cons.mp m with he | m'
    · have q := p14 p (k + 3 * (lvs (p :: ps) - lv p)) w.1
      rw [show k + 3 * (lvs (p :: ps) - lv p) + 3 * lv p = k + 3 * lvs (p :: ps) by have := lvs_mem (ps := p :: ps) (e := p) List.mem_cons_self; omega] at q
      rw [he]
      exact q
    · have q := p14s ps (k + 3 * (lvs (p :: ps) - lvs ps)) w.2 e m'
      rw [show k + 3 * (lvs (p :: ps) - lvs ps) + 3 * lvs ps = k + 3 * lvs (p :: ps) by have := lvs_tail (p := p) (ps := ps); omega] at q
      exact q
end
end
end Tx
namespace Tx
open PySem Mi
def strOf : PyData → Str
  | .str w => w
  | _ => ""
def mkM (w : Str) (op : Str) (c : Int) (e : Ex) (s : Int) : Ex := if w = ("each" : Str) then .each op c e s else .fold op c e s
mutual
def pj : Nat → PyData → Option Ex
  | 0, _ => none
  | n + 1, d => match d with
    | .tuple (.str w :: r) =>
    if w = ("load" : Str) then (match r with
      | [v, s] => if btw 0 996 v && issz s then some (.load (intOf v) (intOf s)) else none
      | _ => none)
    else if w = ("apply" : Str) then (match r with
      | [op, .tuple ps, s] => if isop op && issz s && decide (1 ≤ ps.length ∧ ps.length ≤ 400) then (match pjL n ps 0 with
        | none => none
        | some es => some (.app (strOf op) es (intOf s))) else none
      | _ => none)
    else if w = ("each" : Str) ∨ w = ("fold" : Str) then (match r with
      | [op, c, x, s] => if isop op && btw 1 mxI c && issz s then (match pj n x with
        | none => none
        | some e => some (mkM w (strOf op) (intOf c) e (intOf s))) else none
      | _ => none)
    else none
    | _ => none
def pjL : Nat → List PyData → Nat → Option (List Ex)
  | _, [], _ => some []
  | n, x :: xs, nodes => match pj n x with
    | none => none
    | some e => if nodes > 400 then none else (match pjL n xs (nodes + jn e) with
      | none => none
      | some es => some (e :: es))
end
theorem isop_str {d : PyData} (h : isop d = true) : d = .str (strOf d) ∧ strOf d ∈ ops := by
  cases d <;> simp only [isop] at h <;> first | (cases h; done) | skip
  exact ⟨rfl, of_decide_eq_true h⟩
mutual
theorem pj_ok : ∀ (n : Nat) (d : PyData) (e : Ex), pj n d = some e → WF e ∧ lv e ≤ n ∧ enX e = d
  | 0, d, e, h => by rw [pj] at h; cases h
  | n + 1, d, e, h => by
    unfold pj at h
    split at h
    · rename_i w r
      split at h
      · rename_i hw
        split at h
        · rename_i v s
          split at h
          · rename_i hb
            rw [Bool.and_eq_true] at hb
            obtain ⟨e1, b1, b2⟩ := btw_int hb.1
            obtain ⟨e2, b3, b4⟩ := btw_int hb.2
            cases h
            refine ⟨by rw [WF]; exact ⟨⟨b1, b2⟩, b3, b4⟩, by rw [lv]; omega, ?_⟩
            rw [enX, hw, ← e1, ← e2]
          · cases h
        · cases h
      · split at h
        · rename_i hw
          split at h
          · rename_i op ps s
            split at h
            · rename_i hb
              rw [Bool.and_eq_true, Bool.and_eq_true, decide_eq_true_eq] at hb
              obtain ⟨e1, b1⟩ := isop_str hb.1.1
              obtain ⟨e2, b3, b4⟩ := btw_int hb.1.2
              split at h
              · cases h
              · rename_i es he
                cases h
                obtain ⟨q1, q2, q3⟩ := pjL_ok n ps 0 es he
                have ql : es.length = ps.length := by rw [← q3, enXs_map, List.length_map]
                refine ⟨by rw [WF, ql]; exact ⟨b1, hb.2, q1, b3, b4⟩, by rw [lv]; omega, ?_⟩
                rw [enX, q3, hw, ← e1, ← e2]
            · cases h
          · cases h
        · split at h
          · rename_i hw
            split at h
            · rename_i op c x s
              split at h
              · rename_i hb
                rw [Bool.and_eq_true, Bool.and_eq_true] at hb
                obtain ⟨e1, b1⟩ := isop_str hb.1.1
                obtain ⟨e2, b2, b3⟩ := btw_int hb.1.2
                obtain ⟨e3, b4, b5⟩ := btw_int hb.2
                split at h
                · cases h
                · rename_i e' he
                  cases h
                  obtain ⟨q1, q2, q3⟩ := pj_ok n x e' he
                  unfold mkM
                  split
                  · rename_i hw2
                    refine ⟨by rw [WF]; exact ⟨b1, ⟨b2, b3⟩, q1, b4, b5⟩, by rw [lv]; omega, ?_⟩
                    rw [enX, q3, hw2, ← e1, ← e2, ← e3]
                  · rename_i hw2
                    have hw3 := hw.resolve_left hw2
                    refine ⟨by rw [WF]; exact ⟨b1, ⟨b2, b3⟩, q1, b4, b5⟩, by rw [lv]; omega, ?_⟩
                    rw [enX, q3, hw3, ← e1, ← e2, ← e3]
              · cases h
            · cases h
          · cases h
    · cases h
theorem pjL_ok : ∀ (n : Nat) (xs : List PyData) (c : Nat) (es : List Ex), pjL n xs c = some es → WFs es ∧ lvs es ≤ n ∧ enXs es = xs
  | n, [], c, es, h => by
    rw [pjL] at h
    cases h
    exact ⟨by rw [WFs]; trivial, by rw [lvs]; omega, by rw [enXs]⟩
  | n, x :: xs, c, es, h => by
    rw [pjL] at h
    split at h
    · cases h
    · rename_i e he
      split at h
      · cases h
      · split at h
        · cases h
        · rename_i es' hs
          cases h
          obtain ⟨a1, a2, a3⟩ := pj_ok n x e he
          obtain ⟨b1, b2, b3⟩ := pjL_ok n xs _ es' hs
          exact ⟨by rw [WFs]; exact ⟨a1, b1⟩, by rw [lvs]; omega, by rw [enXs, a3, b3]⟩
end
def encJ : Option Ex → PyData
  | none => .none
  | some e => job e
theorem φ15 : ΦT ds 15 = some f15 := rfl
theorem φ16 : ΦT ds 16 = some f16 := rfl
theorem φ18 : ΦT ds 18 = some f18 := rfl
theorem g10 : GT gs 10 = some (.tuple [.str "each", .str "fold"]) := rfl
section
variable {k : Nat} {h : Sh}
theorem p17 {r : List PyData} : Cl (k + 4) 17 [.d (.list r)] h = .ok (.d (match r with
    | [v, s] => if btw 0 996 v && issz s then s else .none
    | _ => .none)) h := by
  rw [Cl, call_at φ17 rfl]
  refine fin_end (s_ret ?_)
  have tl : tru (E84 (k + 3) (.cmp .Eq (.bi .len [.var 0]) (.cst (.int 2))) [.v (.d (.list r))] h) = .ok (decide (r.length = 2)) h := t_cmp rfl rfl (cmp_eq.trans (len_eq (m := 2)))
  by_cases c : r.length = 2
  · obtain ⟨v, s, rfl⟩ : ∃ v s, r = [v, s] := by
      rcases r with _ | ⟨v, _ | ⟨s, _ | ⟨z, q⟩⟩⟩
      · cases c
      · cases c
      · exact ⟨v, s, rfl⟩
      · cases c
    have i0 : E84 (k + 3) (.ix (.var 0) (.cst (.int 0))) [.v (.d (.list [v, s]))] h = .ok (.d v) h := e_ix rfl rfl at_0
    have i1 : E84 (k + 3) (.ix (.var 0) (.cst (.int 1))) [.v (.d (.list [v, s]))] h = .ok (.d s) h := e_ix rfl rfl at_1
    have t1 : tru (E84 (k + 3) (.call 1 [.ix (.var 0) (.cst (.int 0)), .cst (.int 0), .bin .Sub (.glob 7) (.cst (.int 1))]) [.v (.d (.list [v, s]))] h) = .ok (btw 0 996 v) h := t_b ((e_call (es_cons i0 (es_cons rfl (es_cons rfl es_nil)))).trans (p1 (k := k + 1) v 0 996 h))
    have t2 : tru (E84 (k + 3) (.call 13 [.ix (.var 0) (.cst (.int 1))]) [.v (.d (.list [v, s]))] h) = .ok (issz s) h := t_b ((e_call (es_cons i1 es_nil)).trans p13)
    refine (e_ite (v := btw 0 996 v && issz s) (h1 := h) ?_).trans ?_
    · refine (t_and (v := true) (w := btw 0 996 v && issz s) tl fun _ => t_and t1 fun _ => t_and1.trans t2).trans ?_
      rw [Bool.true_and]
    · dsimp only
      cases btw 0 996 v && issz s
      · rfl
      · exact i1
  · refine (e_ite (v := false) (h1 := h) (t_andF (tl.trans (by rw [decide_eq_false c])))).trans ?_
    rw [if_neg Bool.false_ne_true]
    split
    · exact (c rfl).elim
    · rfl
theorem last_enX (e : Ex) : ixD (enX e) (-1) = some (.int (sz e)) := by cases e <;> (rw [enX]; rfl)
theorem wf_sz {e : Ex} (w : WF e) : 0 ≤ sz e ∧ sz e ≤ mxS := by
  cases e <;> rw [WF] at w <;> simp only [sz] <;> first | exact w.2 | exact w.2.2.2
theorem mxS_lt : mxS ≤ mxI := by rw [mx]; decide
theorem p16 {n K : Nat} {w : Str} {r : List PyData} (hw : w = ("each" : Str) ∨ w = ("fold" : Str)) (hx : ∀ x, Cl (K + 3) 18 [.d x, .d (.int n)] h = .ok (.d (encJ (pj n x))) h) :
    Cl (K + 4) 16 [.d (.str w), .d (.list r), .d (.int ((n + 1 : Nat) : Int))] h = .ok (.d (encJ (match r with
      | [op, c, x, s] => if isop op && btw 1 mxI c && issz s then (match pj n x with
        | none => none
        | some e => some (mkM w (strOf op) (intOf c) e (intOf s))) else none
      | _ => none))) h := by
  rw [Cl, call_at φ16 rfl]
  refine fin_end ?_
  have tl : tru (E84 (K + 3) (.cmp .NotEq (.bi .len [.var 1]) (.cst (.int 4))) [.v (.d (.str w)), .v (.d (.list r)), .v (.d (.int ((n + 1 : Nat) : Int))), .no, .no, .no, .no, .no] h) = .ok (!decide (r.length = 4)) h := t_cmp rfl rfl (cmp_ne.trans (show (eqD (.int (r.length : Int)) (.int ((4 : Nat) : Int))).map _ = _ by rw [len_eq]; rfl))
  by_cases c4 : r.length = 4
  · obtain ⟨op, c, x, s, rfl⟩ : ∃ op c x s, r = [op, c, x, s] := by
      rcases r with _ | ⟨a, _ | ⟨b, _ | ⟨d, _ | ⟨e, _ | ⟨f, q⟩⟩⟩⟩⟩ <;> first | (cases c4; done) | exact ⟨_, _, _, _, rfl⟩
    have i0 : E84 (K + 3) (.ix (.var 1) (.cst (.int 0))) [.v (.d (.str w)), .v (.d (.list [op, c, x, s])), .v (.d (.int ((n + 1 : Nat) : Int))), .no, .no, .no, .no, .no] h = .ok (.d op) h := e_ix rfl rfl at_0
    have i1 : E84 (K + 3) (.ix (.var 1) (.cst (.int 1))) [.v (.d (.str w)), .v (.d (.list [op, c, x, s])), .v (.d (.int ((n + 1 : Nat) : Int))), .no, .no, .no, .no, .no] h = .ok (.d c) h := e_ix rfl rfl at_1
    have t1 : tru (E84 (K + 3) (.call 12 [.ix (.var 1) (.cst (.int 0))]) [.v (.d (.str w)), .v (.d (.list [op, c, x, s])), .v (.d (.int ((n + 1 : Nat) : Int))), .no, .no, .no, .no, .no] h) = .ok (isop op) h := t_b ((e_call (es_cons i0 es_nil)).trans p12)
    have t2 : tru (E84 (K + 3) (.call 1 [.ix (.var 1) (.cst (.int 1)), .cst (.int 1), .glob 1]) [.v (.d (.str w)), .v (.d (.list [op, c, x, s])), .v (.d (.int ((n + 1 : Nat) : Int))), .no, .no, .no, .no, .no] h) = .ok (btw 1 mxI c) h := by
      rw [mx]
      exact t_b ((e_call (es_cons i1 (es_cons rfl (es_cons (e_glob g1) es_nil)))).trans (p1 (k := K + 1) c _ _ h))
    have t3 := t_or (t_not tl) fun _ => t_or (t_not t1) fun _ => t_or1.trans (t_not t2)
    have t3 : tru (E84 (K + 3) (.or [.cmp .NotEq (.bi .len [.var 1]) (.cst (.int 4)), .not (.call 12 [.ix (.var 1) (.cst (.int 0))]), .not (.call 1 [.ix (.var 1) (.cst (.int 1)), .cst (.int 1), .glob 1])]) [.v (.d (.str w)), .v (.d (.list [op, c, x, s])), .v (.d (.int ((n + 1 : Nat) : Int))), .no, .no, .no, .no, .no] h) = .ok (!(isop op && btw 1 mxI c)) h := by
      refine (t_orF tl).trans ((t_or (t_not t1) fun _ => t_or1.trans (t_not t2)).trans ?_)
      rw [Bool.not_and]
    dsimp only
    cases hb : isop op && btw 1 mxI c with
    | false =>
      rw [hb] at t3
      rw [Bool.false_and, if_neg Bool.false_ne_true]
      exact s_ifT t3 (s_ret rfl)
    | true =>
      rw [hb] at t3
      refine (s_ifF t3).trans ((s_asg rfl rfl).trans ?_)
      rw [Bool.true_and]
      have t4 : tru (E84 (K + 3) (.call 13 [.var 7]) [.v (.d (.str w)), .v (.d (.list [op, c, x, s])), .v (.d (.int ((n + 1 : Nat) : Int))), .no, .v (.d op), .v (.d c), .v (.d x), .v (.d s)] h) = .ok (issz s) h := t_b ((e_call (es_cons rfl es_nil)).trans p13)
      have e5 : E84 (K + 3) (.ite (.call 13 [.var 7]) (.call 18 [.var 6, .bin .Sub (.var 2) (.cst (.int 1))]) (.cst .none)) [.v (.d (.str w)), .v (.d (.list [op, c, x, s])), .v (.d (.int ((n + 1 : Nat) : Int))), .no, .v (.d op), .v (.d c), .v (.d x), .v (.d s)] h = .ok (.d (encJ (if issz s then pj n x else none))) h := by
        refine (e_ite t4).trans ?_
        cases issz s with
        | false => rfl
        | true =>
          refine (e_call rfl).trans ?_
          have e9 : ((n + 1 : Nat) : Int) - 1 = n := by omega
          rw [e9]
          exact hx x
      refine (s_asg e5 rfl).trans ?_
      cases hs : issz s with
      | false =>
        rw [if_neg Bool.false_ne_true, if_neg Bool.false_ne_true]
        exact s_ifT rfl (s_ret rfl)
      | true =>
        rw [if_pos rfl, if_pos rfl]
        cases hp : pj n x with
        | none => exact s_ifT rfl (s_ret rfl)
        | some e =>
          obtain ⟨q1, q2, q3⟩ := pj_ok n x e hp
          have bb := Bool.and_eq_true_iff.mp hb
          obtain ⟨ec, c1, c2⟩ := btw_int bb.2
          obtain ⟨es, s1, s2⟩ := btw_int hs
          obtain ⟨z1, z2⟩ := wf_sz q1
          have njob : tru (E84 (K + 3) (.cmp .Is (.var 3) (.cst .none)) [.v (.d (.str w)), .v (.d (.list [op, c, x, s])), .v (.d (.int ((n + 1 : Nat) : Int))), .v (.d (job e)), .v (.d op), .v (.d c), .v (.d x), .v (.d s)] h) = .ok false h := by
            refine t_cmp rfl rfl (show some (isN (job e)) = _ from ?_)
            cases e <;> (rw [job]; rfl)
          refine (s_ifF njob).trans ?_
          have la : E84 (K + 3) (.ix (.var 6) (.neg (.cst (.int 1)))) [.v (.d (.str w)), .v (.d (.list [op, c, x, s])), .v (.d (.int ((n + 1 : Nat) : Int))), .v (.d (job e)), .v (.d op), .v (.d c), .v (.d x), .v (.d s)] h = .ok (.d (.int (sz e))) h := e_ix rfl rfl (by rw [← q3]; exact last_enX e)
          have cE : E84 (K + 3) (.var 5) [.v (.d (.str w)), .v (.d (.list [op, c, x, s])), .v (.d (.int ((n + 1 : Nat) : Int))), .v (.d (job e)), .v (.d op), .v (.d c), .v (.d x), .v (.d s)] h = .ok (.d (.int (intOf c))) h := by rw [← ec]; rfl
          have sE : E84 (K + 3) (.var 7) [.v (.d (.str w)), .v (.d (.list [op, c, x, s])), .v (.d (.int ((n + 1 : Nat) : Int))), .v (.d (job e)), .v (.d op), .v (.d c), .v (.d x), .v (.d s)] h = .ok (.d (.int (intOf s))) h := by rw [← es]; rfl
          have tw : tru (E84 (K + 3) (.cmp .Eq (.var 0) (.cst (.str "each"))) [.v (.d (.str w)), .v (.d (.list [op, c, x, s])), .v (.d (.int ((n + 1 : Nat) : Int))), .v (.d (job e)), .v (.d op), .v (.d c), .v (.d x), .v (.d s)] h) = .ok (decide (w = ("each" : Str))) h := t_cmp rfl rfl (cmp_eq.trans eq_str)
          have mul := e_bin (op := .Mult) (z := .int (intOf c * sz e)) cE la (by
            show (if okI (intOf c) && okI (sz e) then some (PyData.int (intOf c * sz e)) else none) = _
            rw [lim_ok (by omega) c2, lim_ok z1 (Int.le_trans z2 mxS_lt)]
            rfl)
          dsimp only
          by_cases we : w = ("each" : Str)
          · refine s_ifT (tw.trans (by rw [decide_eq_true we])) (s_ret ?_)
            have : mkM w (strOf op) (intOf c) e (intOf s) = .each (strOf op) (intOf c) e (intOf s) := by unfold mkM; rw [if_pos we]
            rw [this, encJ, job]
            exact e_tup (es_cons rfl (es_cons (e_tup (es_cons (e_tup (es_cons rfl (es_cons cE (es_cons rfl es_nil))) rfl (by show 3 ≤ SZ; decide)) (es_cons sE (es_cons (e_bin rfl mul rfl) es_nil))) rfl (by show 3 ≤ SZ; decide)) es_nil)) rfl (by show 2 ≤ SZ; decide)
          · refine (s_ifF (tw.trans (by rw [decide_eq_false we]))).trans (s_ret ?_)
            have : mkM w (strOf op) (intOf c) e (intOf s) = .fold (strOf op) (intOf c) e (intOf s) := by unfold mkM; rw [if_neg we]
            rw [this, encJ, job]
            exact e_tup (es_cons rfl (es_cons (e_tup (es_cons sE (es_cons (e_tup (es_cons rfl (es_cons cE (es_cons (e_tup (es_cons rfl (es_cons (e_tup (es_cons rfl (es_cons (e_bin rfl la rfl) es_nil)) rfl (by show 2 ≤ SZ; decide)) es_nil)) rfl (by show 2 ≤ SZ; decide)) es_nil))) rfl (by show 3 ≤ SZ; decide)) es_nil)) rfl (by show 2 ≤ SZ; decide)) es_nil)) rfl (by show 2 ≤ SZ; decide)
  · refine s_ifT (t_orT (tl.trans (by rw [decide_eq_false c4]; rfl))) ((s_ret rfl).trans ?_)
    split
    · exact (c4 rfl).elim
    · rfl
end
end Tx
namespace Tx
open PySem Mi
section
variable {k : Nat} {h : Sh}
def body15 : List Ts := [.asg (.n 6) (.call 18 [.var 2, .bin .Sub (.var 1) (.cst (.int 1))]), .iff (.or [.cmp .Is (.var 6) (.cst .none), .cmp .Gt (.var 4) (.glob 3)]) [.ret (.cst .none)] [], .app 3 (.var 6), .aug 4 .Add (.call 14 [.var 6]), .aug 5 .Add (.ix (.var 2) (.neg (.cst (.int 1))))]
abbrev en15 (p : List PyData) (n : Nat) (s2 : Sl) (acc : List PyData) (c : Nat) (t : Int) (s6 : Sl) : En := [.v (.d (.list p)), .v (.d (.int ((n + 1 : Nat) : Int))), s2, .own acc, .v (.d (.int c)), .v (.d (.int t)), s6]
theorem job_isN (e : Ex) : isN (job e) = false := by cases e <;> (rw [job]; rfl)
theorem turn15 {n K : Nat} {p : List PyData} {x : PyData} {acc : List PyData} {c : Nat} {t : Int} {s6 : Sl} (hl : acc.length < 400) (hx : Cl (K + 3 * n) 18 [.d x, .d (.int n)] h = .ok (.d (encJ (pj n x))) h) :
    evSs (Cf84 (K + 3 * n)) (GT gs) 1000 body15 (en15 p n (.v (.d x)) acc c t s6) h =
      match pj n x with
      | none => .ok (.rt (.d .none)) h
      | some e => if c > 400 then .ok (.rt (.d .none)) h else .ok (.nx (en15 p n (.v (.d x)) (acc ++ [job e]) (c + jn e) (t + sz e) (.v (.d (job e))))) h := by
  have e9 : ((n + 1 : Nat) : Int) - 1 = n := by omega
  have e1 : E84 (K + 3 * n) (.call 18 [.var 2, .bin .Sub (.var 1) (.cst (.int 1))]) (en15 p n (.v (.d x)) acc c t s6) h = .ok (.d (encJ (pj n x))) h := by
    refine (e_call rfl).trans ?_
    rw [e9]
    exact hx
  unfold body15
  refine (s_asg e1 rfl).trans ?_
  cases q : pj n x with
  | none => exact s_ifT (t_orT (t_cmp rfl rfl rfl)) (s_ret rfl)
  | some e =>
    obtain ⟨w1, w2, w3⟩ := pj_ok n x e q
    have t1 : tru (E84 (K + 3 * n) (.or [.cmp .Is (.var 6) (.cst .none), .cmp .Gt (.var 4) (.glob 3)]) (en15 p n (.v (.d x)) acc c t (.v (.d (job e)))) h) = .ok (decide ((400 : Int) < c)) h :=
      (t_orF (t_cmp (op := .Is) (v := false) (x := job e) (y := .none) rfl rfl (show some (isN (job e)) = some false by rw [job_isN]))).trans (t_or1.trans (t_cmp rfl (e_glob g3) rfl))
    dsimp only
    by_cases cc : c > 400
    · rw [if_pos cc]
      exact s_ifT (t1.trans (by rw [decide_eq_true (by omega)])) (s_ret rfl)
    · rw [if_neg cc]
      refine (s_ifF (t1.trans (by rw [decide_eq_false (by omega)]))).trans ?_
      have a1 : evS (Cf84 (K + 3 * n)) (GT gs) 1000 (.app 3 (.var 6)) (en15 p n (.v (.d x)) acc c t (.v (.d (job e)))) h = .ok (.nx (en15 p n (.v (.d x)) (acc ++ [job e]) c t (.v (.d (job e))))) h := by
        rw [evS]
        show (if acc.length < SZ then R.ok (Out.nx (en15 p n (.v (.d x)) (acc ++ [job e]) c t (.v (.d (job e))))) h else .no) = _
        rw [if_pos (Nat.lt_of_lt_of_le hl (by decide))]
      have ncall : E84 (K + 3 * n) (.call 14 [.var 6]) (en15 p n (.v (.d x)) (acc ++ [job e]) c t (.v (.d (job e)))) h = .ok (.d (.int (jn e))) h := by
        refine (e_call rfl).trans ?_
        have := p14 (h := h) e (K + 3 * (n - lv e)) w1
        rw [show K + 3 * (n - lv e) + 3 * lv e = K + 3 * n by omega] at this
        exact this
      have a2 : evS (Cf84 (K + 3 * n)) (GT gs) 1000 (.aug 4 .Add (.call 14 [.var 6])) (en15 p n (.v (.d x)) (acc ++ [job e]) c t (.v (.d (job e)))) h = .ok (.nx (en15 p n (.v (.d x)) (acc ++ [job e]) (c + jn e) t (.v (.d (job e))))) h := by
        rw [evS]
        show (E84 (K + 3 * n) (.call 14 [.var 6]) (en15 p n (.v (.d x)) (acc ++ [job e]) c t (.v (.d (job e)))) h).bind _ = _
        rw [ncall]
        rfl
      have la : E84 (K + 3 * n) (.ix (.var 2) (.neg (.cst (.int 1)))) (en15 p n (.v (.d x)) (acc ++ [job e]) (c + jn e) t (.v (.d (job e)))) h = .ok (.d (.int (sz e))) h := e_ix rfl rfl (by rw [← w3]; exact last_enX e)
      have a3 : evS (Cf84 (K + 3 * n)) (GT gs) 1000 (.aug 5 .Add (.ix (.var 2) (.neg (.cst (.int 1))))) (en15 p n (.v (.d x)) (acc ++ [job e]) (c + jn e) t (.v (.d (job e)))) h = .ok (.nx (en15 p n (.v (.d x)) (acc ++ [job e]) (c + jn e) (t + sz e) (.v (.d (job e))))) h := by
        rw [evS]
        show (E84 (K + 3 * n) (.ix (.var 2) (.neg (.cst (.int 1)))) (en15 p n (.v (.d x)) (acc ++ [job e]) (c + jn e) t (.v (.d (job e)))) h).bind _ = _
        rw [la]
        rfl
      exact (s_step a1).trans ((s_step a2).trans ((s_step a3).trans (by rw [evSs])))
theorem loop15 {n K : Nat} {p : List PyData} : ∀ (xs acc : List PyData) (c : Nat) (t : Int) (s2 s6 : Sl), acc.length + xs.length ≤ 400 → (∀ x ∈ xs, Cl (K + 3 * n) 18 [.d x, .d (.int n)] h = .ok (.d (encJ (pj n x))) h) →
    (match pjL n xs c with
    | none => forLoop (evSs (Cf84 (K + 3 * n)) (GT gs) 1000 body15) (.n 2) (xs.map .d) (en15 p n s2 acc c t s6) h = .ok (.rt (.d .none)) h
    | some es => ∃ s2' s6' c', forLoop (evSs (Cf84 (K + 3 * n)) (GT gs) 1000 body15) (.n 2) (xs.map .d) (en15 p n s2 acc c t s6) h = .ok (.nx (en15 p n s2' (acc ++ jobs es) c' (t + szs es) s6')) h)
  | [], acc, c, t, s2, s6, _, _ => by
    rw [pjL]
    refine ⟨s2, s6, c, ?_⟩
    rw [jobs, szs, List.append_nil, Int.add_zero]
    rfl
  | x :: xs, acc, c, t, s2, s6, hl, hx => by
    rw [List.length_cons] at hl
    have tt := turn15 (p := p) (acc := acc) (c := c) (t := t) (s6 := s6) (by omega) (hx x List.mem_cons_self)
    have fc : forLoop (evSs (Cf84 (K + 3 * n)) (GT gs) 1000 body15) (.n 2) ((x :: xs).map .d) (en15 p n s2 acc c t s6) h = (evSs (Cf84 (K + 3 * n)) (GT gs) 1000 body15 (en15 p n (.v (.d x)) acc c t s6) h).bind fun o h1 => match o with
      | .nx e => forLoop (evSs (Cf84 (K + 3 * n)) (GT gs) 1000 body15) (.n 2) (xs.map .d) e h1
      | .ct e => forLoop (evSs (Cf84 (K + 3 * n)) (GT gs) 1000 body15) (.n 2) (xs.map .d) e h1
      | .bk e => .ok (.nx e) h1
      | .rt v => .ok (.rt v) h1 := fl_cons rfl
    rw [fc, tt, pjL]
    cases q : pj n x with
    | none => rfl
    | some e =>
      dsimp only
      by_cases cc : c > 400
      · rw [if_pos cc, if_pos cc]
        rfl
      · rw [if_neg cc, if_neg cc]
        have ih := loop15 (K := K) (p := p) xs (acc ++ [job e]) (c + jn e) (t + sz e) (.v (.d x)) (.v (.d (job e))) (by rw [List.length_append, List.length_singleton]; omega) fun y m => hx y (List.mem_cons_of_mem _ m)
        cases q2 : pjL n xs (c + jn e) with
        | none =>
          rw [q2] at ih
          exact ih
        | some es =>
          rw [q2] at ih
          obtain ⟨s2', s6', c', ih⟩ := ih
          refine ⟨s2', s6', c', ?_⟩
          rw [List.append_assoc, Int.add_assoc] at ih
          rw [jobs, szs]
          exact ih
theorem p15 {n K : Nat} {r : List PyData} (hx : ∀ x, Cl (K + 3 + 3 * n) 18 [.d x, .d (.int n)] h = .ok (.d (encJ (pj n x))) h) :
    Cl (K + 3 + 3 * n + 1) 15 [.d (.list r), .d (.int ((n + 1 : Nat) : Int))] h = .ok (.d (encJ (match r with
      | [op, .tuple ps, s] => if isop op && issz s && decide (1 ≤ ps.length ∧ ps.length ≤ 400) then (match pjL n ps 0 with
        | none => none
        | some es => some (.app (strOf op) es (intOf s))) else none
      | _ => none))) h := by
  rw [Cl, call_at φ15 rfl]
  refine fin_end ?_
  have tl : tru (E84 (K + 3 + 3 * n) (.cmp .NotEq (.bi .len [.var 0]) (.cst (.int 3))) [.v (.d (.list r)), .v (.d (.int ((n + 1 : Nat) : Int))), .no, .no, .no, .no, .no] h) = .ok (!decide (r.length = 3)) h := t_cmp rfl rfl (cmp_ne.trans (show (eqD (.int (r.length : Int)) (.int ((3 : Nat) : Int))).map _ = _ by rw [len_eq]; rfl))
  by_cases c3 : r.length = 3
  · obtain ⟨op, pp, s, rfl⟩ : ∃ op pp s, r = [op, pp, s] := by
      rcases r with _ | ⟨a, _ | ⟨b, _ | ⟨d, _ | ⟨e, q⟩⟩⟩⟩ <;> first | (cases c3; done) | exact ⟨_, _, _, rfl⟩
    have i0 : E84 (K + 3 + 3 * n) (.ix (.var 0) (.cst (.int 0))) [.v (.d (.list [op, pp, s])), .v (.d (.int ((n + 1 : Nat) : Int))), .no, .no, .no, .no, .no] h = .ok (.d op) h := e_ix rfl rfl at_0
    have i1 : E84 (K + 3 + 3 * n) (.ix (.var 0) (.cst (.int 1))) [.v (.d (.list [op, pp, s])), .v (.d (.int ((n + 1 : Nat) : Int))), .no, .no, .no, .no, .no] h = .ok (.d pp) h := e_ix rfl rfl at_1
    have i2 : E84 (K + 3 + 3 * n) (.ix (.var 0) (.cst (.int 2))) [.v (.d (.list [op, pp, s])), .v (.d (.int ((n + 1 : Nat) : Int))), .no, .no, .no, .no, .no] h = .ok (.d s) h := e_ix rfl rfl at_2
    have t1 : tru (E84 (K + 3 + 3 * n) (.call 12 [.ix (.var 0) (.cst (.int 0))]) [.v (.d (.list [op, pp, s])), .v (.d (.int ((n + 1 : Nat) : Int))), .no, .no, .no, .no, .no] h) = .ok (isop op) h := by
      refine t_b ((e_call (es_cons i0 es_nil)).trans ?_)
      rw [show K + 3 + 3 * n = (K + 2 + 3 * n) + 1 by omega]
      exact p12
    have t2 : tru (E84 (K + 3 + 3 * n) (.call 13 [.ix (.var 0) (.cst (.int 2))]) [.v (.d (.list [op, pp, s])), .v (.d (.int ((n + 1 : Nat) : Int))), .no, .no, .no, .no, .no] h) = .ok (issz s) h := by
      refine t_b ((e_call (es_cons i2 es_nil)).trans ?_)
      rw [show K + 3 + 3 * n = (K + 3 * n) + 3 by omega]
      exact p13
    have t3 : tru (E84 (K + 3 + 3 * n) (.or [.cmp .NotEq (.bi .len [.var 0]) (.cst (.int 3)), .not (.call 12 [.ix (.var 0) (.cst (.int 0))]), .not (.call 13 [.ix (.var 0) (.cst (.int 2))]), .not (.isi (.ix (.var 0) (.cst (.int 1))) [.tuple])]) [.v (.d (.list [op, pp, s])), .v (.d (.int ((n + 1 : Nat) : Int))), .no, .no, .no, .no, .no] h) = .ok (!(isop op && (issz s && isT .tuple pp))) h := by
      refine (t_orF tl).trans ((t_or (t_not t1) fun _ => t_or (t_not t2) fun _ => t_or1.trans (t_not (t_isi i1 rfl))).trans ?_)
      rw [Bool.not_and, Bool.not_and]
    cases hb : isop op && (issz s && isT .tuple pp) with
    | false =>
      rw [hb] at t3
      refine s_ifT t3 ((s_ret rfl).trans ?_)
      split
      · rename_i op' ps s' hq
        cases hq
        have : (isop op && issz s) = false := by
          rw [show isT .tuple (.tuple ps) = true from rfl, Bool.and_true] at hb
          exact hb
        rw [this, Bool.false_and, if_neg Bool.false_ne_true]
        rfl
      · rfl
    | true =>
      rw [hb] at t3
      have hb' := Bool.and_eq_true_iff.mp hb
      have hb2 := Bool.and_eq_true_iff.mp hb'.2
      obtain ⟨ps, rfl⟩ : ∃ ps, pp = .tuple ps := by
        cases pp <;> first | exact ⟨_, rfl⟩ | (have := hb2.2; cases this)
      obtain ⟨eop, mop⟩ := isop_str hb'.1
      obtain ⟨es, s1, s2⟩ := btw_int hb2.1
      refine (s_ifF t3).trans ((s_par rfl rfl).trans ?_)
      show evSs _ _ _ _ (en15 [op, .tuple ps, s] n .no [] 0 0 .no) h = _
      dsimp only
      rw [hb'.1, hb2.1, Bool.true_and, Bool.true_and]
      have i1' : E84 (K + 3 + 3 * n) (.ix (.var 0) (.cst (.int 1))) (en15 [op, .tuple ps, s] n .no [] 0 0 .no) h = .ok (.d (.tuple ps)) h := e_ix rfl rfl at_1
      have ln : E84 (K + 3 + 3 * n) (.bi .len [.ix (.var 0) (.cst (.int 1))]) (en15 [op, .tuple ps, s] n .no [] 0 0 .no) h = .ok (.d (.int ps.length)) h := e_bi (es_cons i1' es_nil) rfl rfl
      have tc : tru (E84 (K + 3 + 3 * n) (.chain .LtE .LtE (.cst (.int 1)) (.bi .len [.ix (.var 0) (.cst (.int 1))]) (.glob 2)) (en15 [op, .tuple ps, s] n .no [] 0 0 .no) h) = .ok (decide (1 ≤ ps.length ∧ ps.length ≤ 400)) h := by
        refine (t_chain rfl ln (e_glob g2) rfl rfl).trans ?_
        rw [← Bool.decide_and]
        congr 1
        rw [decide_eq_decide]
        omega
      by_cases c : 1 ≤ ps.length ∧ ps.length ≤ 400
      · rw [decide_eq_true c, if_pos rfl]
        rw [decide_eq_true c] at tc
        refine (s_ifF (t_nF tc)).trans ?_
        have lp := loop15 (K := K + 3) (p := [op, .tuple ps, s]) (n := n) (h := h) ps [] 0 0 .no .no (by simpa using c.2) fun x _ => hx x
        cases q : pjL n ps 0 with
        | none =>
          rw [q] at lp
          exact s_forR (es_cons i1' es_nil) rfl lp
        | some ees =>
          rw [q] at lp
          obtain ⟨s2', s6', c', lp⟩ := lp
          refine (s_for (es_cons i1' es_nil) rfl lp).trans (s_ret ?_)
          rw [encJ, job, List.nil_append, Int.zero_add]
          have i2' : E84 (K + 3 + 3 * n) (.ix (.var 0) (.cst (.int 2))) (en15 [op, .tuple ps, s] n s2' (jobs ees) c' (szs ees) s6') h = .ok (.d (.int (intOf s))) h := e_ix rfl rfl (by rw [← es]; exact at_2)
          exact e_tup (es_cons rfl (es_cons (e_tup (es_cons (e_tup (es_cons rfl (es_cons (e_bi (es_cons rfl es_nil) rfl rfl) es_nil)) rfl (by show 2 ≤ SZ; decide)) (es_cons i2' (es_cons rfl es_nil))) rfl (by show 3 ≤ SZ; decide)) es_nil)) rfl (by show 2 ≤ SZ; decide)
      · rw [decide_eq_false c, if_neg Bool.false_ne_true]
        rw [decide_eq_false c] at tc
        exact s_ifT (t_nT tc) (s_ret rfl)
  · refine s_ifT (t_orT (tl.trans (by rw [decide_eq_false c3]; rfl))) ((s_ret rfl).trans ?_)
    split
    · exact (c3 rfl).elim
    · rfl
end
end Tx
namespace Tx
open PySem Mi
theorem φ19 : ΦT ds 19 = some f19 := rfl
theorem φ20 : ΦT ds 20 = some f20 := rfl
theorem φ21 : ΦT ds 21 = some f21 := rfl
theorem φ6 : ΦT ds 6 = some f6 := rfl
theorem φ7 : ΦT ds 7 = some f7 := rfl
theorem g4 : GT gs 4 = some (.int 13) := rfl
section
variable {h : Sh}
theorem pj_other {n : Nat} {d : PyData} (hn : ∀ w r, d ≠ .tuple (.str w :: r)) : pj (n + 1) d = none := by
  unfold pj
  split
  · exact (hn _ _ rfl).elim
  · rfl
theorem p18 : ∀ (n : Nat) (d : PyData) (k : Nat), Cl (k + 3 * n + 6) 18 [.d d, .d (.int n)] h = .ok (.d (encJ (pj n d))) h
  | 0, d, k => by
    rw [Cl, call_at φ18 rfl]
    refine fin_end (s_ifT (h1 := h) (t_orT (t_cmp rfl rfl rfl)) ((s_ret rfl).trans ?_))
    unfold pj
    rfl
  | n + 1, d, k => by
    rw [Cl, call_at φ18 rfl]
    refine fin_end ?_
    have eK : k + 3 * (n + 1) + 5 = k + 3 * n + 8 := by omega
    show evSs (Cf84 (k + 3 * (n + 1) + 5)) (GT gs) 1000 f18.body [.v (.d d), .v (.d (.int ((n + 1 : Nat) : Int))), .no, .no] h = _
    rw [eK]
    have z0 : decide (((n + 1 : Nat) : Int) = 0) = false := decide_eq_false (by omega)
    have t0 : tru (E84 (k + 3 * n + 8) (.cmp .Eq (.var 1) (.cst (.int 0))) [.v (.d d), .v (.d (.int ((n + 1 : Nat) : Int))), .no, .no] h) = .ok false h := t_cmp rfl rfl (cmp_eq.trans (eq_int.trans (by rw [z0])))
    by_cases hd : ∃ w r, d = .tuple (.str w :: r)
    · obtain ⟨w, r, rfl⟩ := hd
      have first : E84 (k + 3 * n + 8) (.ix (.var 0) (.cst (.int 0))) [.v (.d (.tuple (.str w :: r))), .v (.d (.int ((n + 1 : Nat) : Int))), .no, .no] h = .ok (.d (.str w)) h := e_ix rfl rfl ix_0
      refine (s_ifF (h1 := h) ((t_orF t0).trans ((t_orF (t_nF (t_b rfl))).trans ((t_orF (t_cmp rfl rfl rfl)).trans (t_or1.trans (t_nF (t_isi first rfl))))))).trans ((s_asg rfl rfl).trans ?_)
      have tw : ∀ s : Str, tru (E84 (k + 3 * n + 8) (.cmp .Eq (.var 2) (.cst (.str s))) [.v (.d (.tuple (.str w :: r))), .v (.d (.int ((n + 1 : Nat) : Int))), .v (.d (.str w)), .v (.d (.list r))] h) = .ok (decide (w = s)) h := fun s => t_cmp rfl rfl (cmp_eq.trans eq_str)
      unfold pj
      dsimp only
      by_cases w1 : w = ("load" : Str)
      · rw [if_pos w1]
        refine s_ifT ((tw _).trans (by rw [decide_eq_true w1])) (s_ret ((e_call rfl).trans (?_ : Cl (k + 3 * n + 4 + 4) 17 [.d (.list r)] h = _)))
        refine p17.trans ?_
        split
        · split
          · rename_i v s hb
            rw [Bool.and_eq_true] at hb
            obtain ⟨e2, _, _⟩ := btw_int hb.2
            rw [encJ, job, ← e2]
          · rfl
        · rfl
      · rw [if_neg w1]
        refine (s_ifF ((tw _).trans (by rw [decide_eq_false w1]))).trans ?_
        by_cases w2 : w = ("apply" : Str)
        · rw [if_pos w2]
          refine s_ifT ((tw _).trans (by rw [decide_eq_true w2])) (s_ret ((e_call rfl).trans ?_))
          have q := p15 (h := h) (n := n) (K := k + 4) (r := r) fun x => by
            have := p18 n x (k + 1)
            rw [show k + 1 + 3 * n + 6 = k + 4 + 3 + 3 * n by omega] at this
            exact this
          rw [show k + 4 + 3 + 3 * n + 1 = k + 3 * n + 8 by omega] at q
          exact q
        · rw [if_neg w2]
          refine (s_ifF ((tw _).trans (by rw [decide_eq_false w2]))).trans (s_ret ?_)
          have ti : tru (E84 (k + 3 * n + 8) (.cmp .In (.var 2) (.glob 10)) [.v (.d (.tuple (.str w :: r))), .v (.d (.int ((n + 1 : Nat) : Int))), .v (.d (.str w)), .v (.d (.list r))] h) = .ok (decide (w ∈ [("each" : Str), "fold"])) h := cmp_in (ys := ["each", "fold"]) rfl g10
          refine (e_ite ti).trans ?_
          by_cases w3 : w = ("each" : Str) ∨ w = ("fold" : Str)
          · rw [if_pos w3, if_pos (decide_eq_true (by simpa using w3))]
            refine (e_call rfl).trans ?_
            have q := p16 (h := h) (n := n) (K := k + 3 * n + 4) (w := w) (r := r) w3 fun x => by
              have := p18 n x (k + 1)
              rw [show k + 1 + 3 * n + 6 = k + 3 * n + 4 + 3 by omega] at this
              exact this
            exact q
          · rw [if_neg w3, if_neg (by simpa using w3)]
            rfl
    · have hn : ∀ w r, d ≠ .tuple (.str w :: r) := fun w r e => hd ⟨w, r, e⟩
      refine s_ifT (h1 := h) ((t_orF t0).trans ?_) ((s_ret rfl).trans (by rw [pj_other hn]; rfl))
      cases d with
      | tuple xs =>
        refine (t_orF (h1 := h) (t_nF (t_b rfl))).trans ?_
        cases xs with
        | nil => exact t_orT (t_cmp rfl rfl rfl)
        | cons x xs =>
          refine (t_orF (h1 := h) (t_cmp rfl rfl rfl)).trans (t_or1.trans ?_)
          cases x with
          | str w => exact (hn w xs rfl).elim
          | _ => exact t_nT (t_isi (e_ix rfl rfl ix_0) rfl)
      | _ => exact t_orT (t_nT (t_b rfl))
/-- the expression that a value is -/
def exOf (d : PyData) : Option Ex := match pj 13 d with
  | none => none
  | some e => if (meas 13 (job e)).isSome then some e else none
theorem p6 {k : Nat} {d : PyData} : Cl (k + 30) 6 [.d d] h = .ok (.d (.bool (meas 13 d).isSome)) h := by
  rw [Cl, call_at φ6 rfl]
  refine fin_end (s_ret ?_)
  have q : E84 (k + 29) (.call 3 [.var 0, .glob 4]) [.v (.d d)] h = .ok (.d (encM (meas 13 d))) h := (e_call (es_cons rfl (es_cons (e_glob g4) es_nil))).trans (p3 13 d k h)
  refine e_cmp q rfl (show some (!isN (encM (meas 13 d))) = _ from ?_)
  cases meas 13 d with
  | none => rfl
  | some p => rfl
theorem p21 {k : Nat} {d : PyData} : Cl (k + 46) 21 [.d d] h = .ok (.d (encJ (pj 13 d))) h := by
  rw [Cl, call_at φ21 rfl]
  exact fin_end (s_ret ((e_call (es_cons rfl (es_cons (e_glob g4) es_nil))).trans (p18 13 d k)))
theorem p19 {k : Nat} {d : PyData} : Cl (k + 46) 19 [.d d] h = .ok (.d (.bool (exOf d).isSome)) h := by
  rw [Cl, call_at φ19 rfl]
  refine fin_end ?_
  have q : E84 (k + 45) (.call 18 [.var 0, .glob 4]) [.v (.d d), .no] h = .ok (.d (encJ (pj 13 d))) h := (e_call (es_cons rfl (es_cons (e_glob g4) es_nil))).trans (p18 13 d k)
  refine (s_asg q rfl).trans (s_ret ?_)
  unfold exOf
  cases pj 13 d with
  | none => exact e_andB (v := false) (w := true) (e_cmp rfl rfl rfl) fun z => nomatch z
  | some e =>
    refine (e_andB (v := true) (w := (meas 13 (job e)).isSome) (e_cmp (op := .IsNot) (x := job e) (y := .none) rfl rfl (show some (!isN (job e)) = some true by rw [job_isN]; rfl)) fun _ => e_and1.trans ((e_call rfl).trans (p6 (k := k + 15)))).trans ?_
    dsimp only
    cases hm : (meas 13 (job e)).isSome
    · rfl
    · rfl
theorem p20 {k : Nat} {d : PyData} : Cl (k + 47) 20 [.d d] h = (if (exOf d).isSome then .ok (.d .none) h else .ex ⟨2, none⟩ h) := by
  rw [Cl, call_at φ20 rfl]
  have t : tru (E84 (k + 46) (.call 19 [.var 0]) [.v (.d d)] h) = .ok (exOf d).isSome h := t_b ((e_call rfl).trans p19)
  show fin (evSs (Cf84 (k + 46)) (GT gs) 1000 [.iff (.not (.call 19 [.var 0])) [.raise 2] []] [.v (.d d)] h) = _
  rw [s_if (t_not t)]
  cases (exOf d).isSome with
  | true => rfl
  | false => rfl
end
end Tx
namespace Tx
open PySem Mi
theorem φ2 : ΦT ds 2 = some f2 := rfl
theorem φ8 : ΦT ds 8 = some f8 := rfl
theorem φ9 : ΦT ds 9 = some f9 := rfl
theorem φ10 : ΦT ds 10 = some f10 := rfl
theorem φ11 : ΦT ds 11 = some f11 := rfl
def mn (i j : Int) : Int := if j < i then j else i
def stE (w : Str) (p q : Int × Int) : Int × Int := (p.1 + q.1, if w = ("par" : Str) then p.2 + q.2 else mn p.2 (p.1 + q.2))
def ptE (p : Int × Int) : PyData := .tuple [.int p.1, .int p.2]
section
variable {h : Sh}
theorem p2 {k : Nat} {d : PyData} : Cl (k + 1) 2 [.d d] h = .ok (.d (.bool (isT .tuple d))) h := by cases d <;> rfl
def body9 : List Ts := [.asg (.n 3) (.ite (.cmp .Eq (.var 0) (.cst (.str "par"))) (.bin .Add (.var 3) (.var 5)) (.bi .min [.var 3, .bin .Add (.var 2) (.var 5)])), .aug 2 .Add (.var 4)]
theorem loop9 {K : Nat} {w : Str} {l : List PyData} : ∀ (qs : List (Int × Int)) (p : Int × Int) (s4 s5 : Sl), ∃ s4' s5', forLoop (evSs (Cf84 K) (GT gs) 1000 body9) (.t [4, 5]) ((qs.map ptE).map .d) [.v (.d (.str w)), .v (.d (.list l)), .v (.d (.int p.1)), .v (.d (.int p.2)), s4, s5] h =
    .ok (.nx [.v (.d (.str w)), .v (.d (.list l)), .v (.d (.int (qs.foldl (stE w) p).1)), .v (.d (.int (qs.foldl (stE w) p).2)), s4', s5']) h
  | [], p, s4, s5 => ⟨s4, s5, rfl⟩
  | q :: qs, p, s4, s5 => by
    obtain ⟨s4', s5', ih⟩ := loop9 (K := K) (w := w) (l := l) qs (stE w p q) (.v (.d (.int q.1))) (.v (.d (.int q.2)))
    refine ⟨s4', s5', ?_⟩
    have tw : tru (E84 K (.cmp .Eq (.var 0) (.cst (.str "par"))) [.v (.d (.str w)), .v (.d (.list l)), .v (.d (.int p.1)), .v (.d (.int p.2)), .v (.d (.int q.1)), .v (.d (.int q.2))] h) = .ok (decide (w = ("par" : Str))) h := t_cmp rfl rfl (cmp_eq.trans eq_str)
    have e1 : E84 K (.ite (.cmp .Eq (.var 0) (.cst (.str "par"))) (.bin .Add (.var 3) (.var 5)) (.bi .min [.var 3, .bin .Add (.var 2) (.var 5)])) [.v (.d (.str w)), .v (.d (.list l)), .v (.d (.int p.1)), .v (.d (.int p.2)), .v (.d (.int q.1)), .v (.d (.int q.2))] h = .ok (.d (.int (stE w p q).2)) h := by
      refine (e_ite tw).trans ?_
      unfold stE
      by_cases c : w = ("par" : Str)
      · rw [if_pos (decide_eq_true c), if_pos c]; rfl
      · rw [if_neg (by rw [decide_eq_false c]; decide), if_neg c]; rfl
    have b : evSs (Cf84 K) (GT gs) 1000 body9 [.v (.d (.str w)), .v (.d (.list l)), .v (.d (.int p.1)), .v (.d (.int p.2)), .v (.d (.int q.1)), .v (.d (.int q.2))] h = .ok (.nx [.v (.d (.str w)), .v (.d (.list l)), .v (.d (.int (stE w p q).1)), .v (.d (.int (stE w p q).2)), .v (.d (.int q.1)), .v (.d (.int q.2))]) h :=
      (s_asg e1 rfl).trans rfl
    refine (fl_cons (env' := [.v (.d (.str w)), .v (.d (.list l)), .v (.d (.int p.1)), .v (.d (.int p.2)), .v (.d (.int q.1)), .v (.d (.int q.2))]) rfl).trans ?_
    rw [b]
    exact ih
theorem p9 {k : Nat} {w : Str} {qs : List (Int × Int)} : Cl (k + 1) 9 [.d (.str w), .d (.list (qs.map ptE))] h = .ok (.d (ptE (qs.foldl (stE w) (0, 0)))) h := by
  rw [Cl, call_at φ9 rfl]
  refine fin_end ((s_asg rfl rfl).trans ?_)
  obtain ⟨s4, s5, lp⟩ := loop9 (h := h) (K := k) (w := w) (l := qs.map ptE) qs (0, 0) .no .no
  exact (s_for rfl rfl lp).trans (s_ret rfl)
theorem x_leaf {k : Nat} {i : Int} : Cl (k + 2) 8 [.d (.int i)] h = .ok (.d (ptE (i, mn 0 i))) h := by
  rw [Cl, call_at φ8 rfl]
  exact fin_end (s_ifT (h1 := h) (t_nT (t_b ((e_call rfl).trans p2))) (s_ret rfl))
theorem x_grp {K : Nat} {w : Str} {zs : List (PyData × (Int × Int))} (hw : w ∈ [("seq" : Str), "par"]) (hl : zs.length ≤ SZ) (hp : ∀ z ∈ zs, Cl (K + 1) 8 [.d z.1] h = .ok (.d (ptE z.2)) h) :
    Cl (K + 2) 8 [.d (.tuple [.str w, .tuple (zs.map (·.1))])] h = .ok (.d (ptE ((zs.map (·.2)).foldl (stE w) (0, 0)))) h := by
  rw [Cl, call_at φ8 rfl]
  refine fin_end ?_
  have cz := comp_zip (C := Cf84 (K + 1)) (G := GT gs) (tg := .n 3) (elt := E84 (K + 1) (.call 8 [.var 3])) (env := [.v (.d (.tuple [.str w, .tuple (zs.map (·.1))])), .no, .no, .no]) (zs.map fun z => (z.1, ptE z.2)) (h := h) fun z m => by
    obtain ⟨z', m', rfl⟩ := List.mem_map.mp m
    exact ⟨_, rfl, (e_call rfl).trans (hp z' m')⟩
  have e1 : (zs.map fun z => (z.1, ptE z.2)).map (·.1) = zs.map (·.1) := by rw [List.map_map]; rfl
  have e2 : (zs.map fun z => (z.1, ptE z.2)).map (·.2) = (zs.map (·.2)).map ptE := by rw [List.map_map, List.map_map]; rfl
  rw [e1, e2] at cz
  have first : E84 (K + 1) (.ix (.var 0) (.cst (.int 0))) [.v (.d (.tuple [.str w, .tuple (zs.map (·.1))])), .no, .no, .no] h = .ok (.d (.str w)) h := e_ix rfl rfl ix_0
  refine (s_ifF (h1 := h) (t_nF (t_b ((e_call rfl).trans p2)))).trans (s_ifT ((cmp_in first g5).trans (by rw [decide_eq_true hw])) (s_ret ?_))
  exact (e_call (es_cons first (es_cons (e_comp (es_cons (e_ix rfl rfl ix_1) es_nil) rfl (by rw [List.length_map]; exact hl) cz) es_nil))).trans p9
theorem x_mul {K : Nat} {w : Str} {c : Int} {x : PyData} {p : Int × Int} (hw : w ∉ [("seq" : Str), "par"]) (hc : 1 ≤ c ∧ c ≤ mxI) (b1 : okI p.1 = true) (b2 : okI p.2 = true) (hp : Cl (K + 1) 8 [.d x] h = .ok (.d (ptE p)) h) :
    Cl (K + 2) 8 [.d (.tuple [.str w, .int c, x])] h = .ok (.d (ptE (if w = ("copies" : Str) then (c * p.1, c * p.2) else (c * p.1, p.2 + mn 0 ((c - 1) * p.1))))) h := by
  rw [Cl, call_at φ8 rfl]
  refine fin_end ?_
  have first : E84 (K + 1) (.ix (.var 0) (.cst (.int 0))) [.v (.d (.tuple [.str w, .int c, x])), .no, .no, .no] h = .ok (.d (.str w)) h := e_ix rfl rfl ix_0
  have e3 : E84 (K + 1) (.call 8 [.ix (.var 0) (.cst (.int 2))]) [.v (.d (.tuple [.str w, .int c, x])), .no, .no, .no] h = .ok (.d (ptE p)) h := (e_call (es_cons (e_ix rfl rfl ix_2) es_nil)).trans hp
  refine (s_ifF (h1 := h) (t_nF (t_b ((e_call rfl).trans p2)))).trans ((s_ifF ((cmp_in first g5).trans (by rw [decide_eq_false hw]))).trans ((s_asg e3 rfl).trans ?_))
  have i1 : E84 (K + 1) (.ix (.var 0) (.cst (.int 1))) [.v (.d (.tuple [.str w, .int c, x])), .v (.d (.int p.1)), .v (.d (.int p.2)), .no] h = .ok (.d (.int c)) h := e_ix rfl rfl ix_1
  have i0 : E84 (K + 1) (.ix (.var 0) (.cst (.int 0))) [.v (.d (.tuple [.str w, .int c, x])), .v (.d (.int p.1)), .v (.d (.int p.2)), .no] h = .ok (.d (.str w)) h := e_ix rfl rfl ix_0
  have c0 : decide (c = 0) = false := decide_eq_false (by omega)
  refine (s_ifF (t_cmp i1 rfl (cmp_eq.trans (eq_int.trans (by rw [c0]))))).trans ?_
  have okc : okI c = true := lim_ok (by omega) hc.2
  have okc1 : okI (c - 1) = true := lim_ok (by omega) (by omega)
  have m1 : E84 (K + 1) (.bin .Mult (.ix (.var 0) (.cst (.int 1))) (.var 1)) [.v (.d (.tuple [.str w, .int c, x])), .v (.d (.int p.1)), .v (.d (.int p.2)), .no] h = .ok (.d (.int (c * p.1))) h := e_bin i1 rfl (by
    show (if okI c && okI p.1 then some (PyData.int (c * p.1)) else none) = _
    rw [okc, b1]; rfl)
  have tw := t_cmp (op := .Eq) (b := .cst (.str "copies")) (y := .str "copies") i0 rfl (cmp_eq.trans (eq_str (a := w) (b := "copies")))
  by_cases cw : w = ("copies" : Str)
  · rw [if_pos cw]
    have m2 : E84 (K + 1) (.bin .Mult (.ix (.var 0) (.cst (.int 1))) (.var 2)) [.v (.d (.tuple [.str w, .int c, x])), .v (.d (.int p.1)), .v (.d (.int p.2)), .no] h = .ok (.d (.int (c * p.2))) h := e_bin i1 rfl (by
      show (if okI c && okI p.2 then some (PyData.int (c * p.2)) else none) = _
      rw [okc, b2]; rfl)
    exact s_ifT (tw.trans (by rw [decide_eq_true cw])) (s_ret (e_tup (es_cons m1 (es_cons m2 es_nil)) rfl (by show 2 ≤ SZ; decide)))
  · rw [if_neg cw]
    have m3 : E84 (K + 1) (.bin .Mult (.bin .Sub (.ix (.var 0) (.cst (.int 1))) (.cst (.int 1))) (.var 1)) [.v (.d (.tuple [.str w, .int c, x])), .v (.d (.int p.1)), .v (.d (.int p.2)), .no] h = .ok (.d (.int ((c - 1) * p.1))) h := e_bin (e_bin i1 rfl rfl) rfl (by
      show (if okI (c - 1) && okI p.1 then some (PyData.int ((c - 1) * p.1)) else none) = _
      rw [okc1, b1]; rfl)
    exact (s_ifF (tw.trans (by rw [decide_eq_false cw]))).trans (s_ret (e_tup (es_cons m1 (es_cons (e_bin rfl (e_bi (z := .int (mn 0 ((c - 1) * p.1))) (es_cons rfl (es_cons m3 es_nil)) rfl rfl) rfl) es_nil)) rfl (by show 2 ≤ SZ; decide)))
end
end Tx
namespace Tx
open PySem Mi
def lf (i : Int) : Int × Int := (i, mn 0 i)
mutual
def ext : Ex → Int × Int
  | .load _ s => lf s
  | .app _ ps s => [(exts ps).foldl (stE "par") (0, 0), lf s, lf (0 - szs ps)].foldl (stE "seq") (0, 0)
  | .each _ c e s => [(c * (ext e).1, c * (ext e).2), lf s, lf (0 - c * sz e)].foldl (stE "seq") (0, 0)
  | .fold _ c e s =>
    [lf s, (c * ([ext e, lf (0 - sz e)].foldl (stE "seq") (0, 0)).1, ([ext e, lf (0 - sz e)].foldl (stE "seq") (0, 0)).2 + mn 0 ((c - 1) * ([ext e, lf (0 - sz e)].foldl (stE "seq") (0, 0)).1))].foldl (stE "seq") (0, 0)
def exts : List Ex → List (Int × Int)
  | [] => []
  | e :: r => ext e :: exts r
end
theorem exts_map : ∀ ps : List Ex, exts ps = ps.map ext
  | [] => by rw [exts]; rfl
  | e :: r => by rw [exts, exts_map r]; rfl
def LB : Nat → Int
  | 0 => 1
  | n + 1 => 10 ^ 50 * LB n
theorem c50 : (10 ^ 50 : Int) = 100000000000000000000000000000000000000000000000000 := by decide +kernel
theorem LB_pos : ∀ n, 1 ≤ LB n
  | 0 => by decide
  | n + 1 => by have := LB_pos n; rw [LB, c50]; omega
theorem LB_mono {n m : Nat} (h : n ≤ m) : LB n ≤ LB m := by
  induction h with
  | refl => exact Int.le_refl _
  | step _ ih => have := LB_pos n; rename_i m _; have := LB_pos m; rw [LB, c50]; omega
theorem seq_ne : ¬ ("seq" : Str) = ("par" : Str) := by decide +kernel
theorem stS (p q : Int × Int) : stE "seq" p q = (p.1 + q.1, mn p.2 (p.1 + q.2)) := by unfold stE; rw [if_neg seq_ne]
theorem stP (p q : Int × Int) : stE "par" p q = (p.1 + q.1, p.2 + q.2) := by unfold stE; rw [if_pos rfl]
theorem mn_b {a b B : Int} (h1 : -B ≤ a) (h2 : a ≤ B) (h3 : -B ≤ b) (h4 : b ≤ B) : -B ≤ mn a b ∧ mn a b ≤ B := by
  unfold mn
  split <;> omega
theorem mul_b {c x B C : Int} (c0 : 0 ≤ c) (c1 : c ≤ C) (b1 : -B ≤ x) (b2 : x ≤ B) : -(C * B) ≤ c * x ∧ c * x ≤ C * B := by
  have hB : 0 ≤ B := by omega
  have h1 : c * x ≤ c * B := Int.mul_le_mul_of_nonneg_left b2 c0
  have h2 : c * B ≤ C * B := Int.mul_le_mul_of_nonneg_right c1 hB
  have h3 : c * (-B) ≤ c * x := Int.mul_le_mul_of_nonneg_left b1 c0
  rw [Int.mul_neg] at h3
  omega
theorem par_fold : ∀ (qs : List (Int × Int)) (p : Int × Int), qs.foldl (stE "par") p = (p.1 + (qs.map (·.1)).sum, p.2 + (qs.map (·.2)).sum)
  | [], p => by simp
  | q :: qs, p => by
    rw [List.foldl_cons, par_fold qs, stP]
    simp only [List.map_cons, List.sum_cons]
    rw [Int.add_assoc, Int.add_assoc]
theorem szs_map : ∀ ps : List Ex, szs ps = (ps.map sz).sum
  | [] => by rw [szs]; rfl
  | e :: r => by rw [szs, szs_map r]; rfl
theorem sum_b {B : Int} (hB : 0 ≤ B) : ∀ l : List Int, (∀ x ∈ l, -B ≤ x ∧ x ≤ B) → -(l.length * B) ≤ l.sum ∧ l.sum ≤ l.length * B
  | [], _ => by simp
  | x :: l, h => by
    have ih := sum_b hB l fun y m => h y (List.mem_cons_of_mem _ m)
    have hx := h x List.mem_cons_self
    rw [List.sum_cons, List.length_cons]
    have e : ((l.length + 1 : Nat) : Int) * B = l.length * B + B := by
      rw [Int.natCast_add, Int.add_mul]; simp
    rw [e]
    omega
theorem len_mul {n : Nat} {B : Int} (hn : n ≤ 400) (hB : 0 ≤ B) : (n : Int) * B ≤ 400 * B := Int.mul_le_mul_of_nonneg_right (by omega) hB
def EB (e : Ex) : Prop := (ext e).1 = sz e ∧ -LB (lv e) ≤ (ext e).2 ∧ (ext e).2 ≤ LB (lv e)
theorem lf_b {i B : Int} (h1 : -B ≤ i) (h2 : i ≤ B) : -B ≤ (lf i).2 ∧ (lf i).2 ≤ B := by
  have : 0 ≤ B := by omega
  exact mn_b (by omega) (by omega) h1 h2
theorem mxS_eq : mxS = 1000000000000 := rfl
mutual
theorem ext_ok : ∀ e : Ex, WF e → EB e
  | .load v s, w => by
    have ws := wf_sz w
    rw [mxS_eq] at ws
    simp only [sz] at ws
    unfold EB
    rw [ext, lv]
    refine ⟨rfl, ?_⟩
    have : LB (1) = 10 ^ 50 * 1 := by rw [LB, LB]
    rw [this, c50]
    exact lf_b (by omega) (by omega)
  | .app op ps s, w => by
    have ws := wf_sz w
    rw [mxS_eq] at ws
    simp only [sz] at ws
    rw [WF] at w
    obtain ⟨_, ⟨_, hl⟩, wp, _⟩ := w
    have ih := exts_ok ps wp
    have lp := LB_pos (lvs ps)
    have e1 : ((exts ps).map (·.1)) = ps.map sz := by
      rw [exts_map, List.map_map]
      exact List.map_congr_left fun e m => (ih e m).1
    have b2 := sum_b (B := LB (lvs ps)) (by omega) ((exts ps).map (·.2)) fun x m => by
      rw [exts_map, List.map_map] at m
      obtain ⟨e, m', rfl⟩ := List.mem_map.mp m
      exact (ih e m').2
    have b3 := sum_b (B := 1000000000000) (by decide) (ps.map sz) fun x m => by
      obtain ⟨e, m', rfl⟩ := List.mem_map.mp m
      have := wf_sz (WFs_mem wp m')
      rw [mxS_eq] at this
      omega
    rw [exts_map, List.length_map, List.length_map] at b2
    rw [List.length_map] at b3
    have k2 := len_mul hl (show 0 ≤ LB (lvs ps) by omega)
    have k3 := len_mul hl (show (0 : Int) ≤ 1000000000000 by decide)
    unfold EB
    rw [ext, par_fold, e1, ← szs_map, lv]
    rw [← szs_map] at b3
    rw [← exts_map] at b2
    have e4 : LB (1 + lvs ps) = 10 ^ 50 * LB (lvs ps) := by rw [Nat.add_comm, LB]
    rw [e4, c50]
    rw [show sz (Ex.app op ps s) = s from rfl]
    simp only [List.foldl, stS, Int.zero_add]
    refine ⟨by simp only [lf]; omega, ?_⟩
    have q1 := lf_b (i := s) (B := 100000000000000000000 * LB (lvs ps)) (by omega) (by omega)
    have q2 := lf_b (i := 0 - szs ps) (B := 100000000000000000000 * LB (lvs ps)) (by omega) (by omega)
    simp only [lf] at q1 q2 ⊢
    exact mn_b (mn_b (mn_b (by omega) (by omega) (by omega) (by omega)).1 (mn_b (by omega) (by omega) (by omega) (by omega)).2 (by omega) (by omega)).1 (mn_b (mn_b (by omega) (by omega) (by omega) (by omega)).1 (mn_b (by omega) (by omega) (by omega) (by omega)).2 (by omega) (by omega)).2 (by omega) (by omega)
  | .each op c e s, w => by
    have ws := wf_sz w
    rw [mxS_eq] at ws
    simp only [sz] at ws
    rw [WF] at w
    obtain ⟨_, ⟨c1, c2⟩, we, _⟩ := w
    obtain ⟨h1, h2, h3⟩ := ext_ok e we
    have we2 := wf_sz we
    rw [mxS_eq] at we2
    have lp := LB_pos (lv e)
    have b1 := mul_b (c := c) (C := mxI) (by omega) c2 (x := sz e) (B := 1000000000000) (by omega) (by omega)
    have b2 := mul_b (c := c) (C := mxI) (by omega) c2 h2 h3
    rw [mx] at b1 b2
    unfold EB
    rw [ext, h1, lv, show sz (Ex.each op c e s) = s from rfl]
    have e4 : LB (1 + lv e) = 10 ^ 50 * LB (lv e) := by rw [Nat.add_comm, LB]
    rw [e4, c50]
    simp only [List.foldl, stS, Int.zero_add]
    refine ⟨by simp only [lf]; omega, ?_⟩
    have q1 := lf_b (i := s) (B := 10000000000000000000000000000000000000000000 * LB (lv e)) (by omega) (by omega)
    have q2 := lf_b (i := 0 - c * sz e) (B := 10000000000000000000000000000000000000000000 * LB (lv e)) (by omega) (by omega)
    simp only [lf] at q1 q2 ⊢
    exact mn_b (mn_b (mn_b (by omega) (by omega) (by omega) (by omega)).1 (mn_b (by omega) (by omega) (by omega) (by omega)).2 (by omega) (by omega)).1 (mn_b (mn_b (by omega) (by omega) (by omega) (by omega)).1 (mn_b (by omega) (by omega) (by omega) (by omega)).2 (by omega) (by omega)).2 (by omega) (by omega)
  | .fold op c e s, w => by
    have ws := wf_sz w
    rw [mxS_eq] at ws
    simp only [sz] at ws
    rw [WF] at w
    obtain ⟨_, ⟨c1, c2⟩, we, _⟩ := w
    obtain ⟨h1, h2, h3⟩ := ext_ok e we
    have we2 := wf_sz we
    rw [mxS_eq] at we2
    have lp := LB_pos (lv e)
    unfold EB
    rw [ext, lv, show sz (Ex.fold op c e s) = s from rfl]
    have e4 : LB (1 + lv e) = 10 ^ 50 * LB (lv e) := by rw [Nat.add_comm, LB]
    rw [e4, c50]
    simp only [List.foldl, stS, Int.zero_add, h1]
    have z1 : sz e + (lf (0 - sz e)).1 = 0 := by simp only [lf]; omega
    rw [z1, Int.mul_zero, Int.mul_zero]
    refine ⟨by simp only [lf]; omega, ?_⟩
    have q1 := lf_b (i := s) (B := 1000000000000000000 * LB (lv e)) (by omega) (by omega)
    have q2 := lf_b (i := 0 - sz e) (B := 1000000000000000000 * LB (lv e)) (by omega) (by omega)
    have m0 : mn 0 0 = 0 := rfl
    rw [m0, Int.add_zero]
    have q3 := mn_b (a := 0) (b := (ext e).2) (B := 1000000000000000000 * LB (lv e)) (by omega) (by omega) (by omega) (by omega)
    have q4 := mn_b (a := mn 0 (ext e).2) (b := sz e + (lf (0 - sz e)).2) (B := 2000000000000000000 * LB (lv e)) (by omega) (by omega) (by omega) (by omega)
    simp only [lf] at q1 q2 q4 ⊢
    exact mn_b (mn_b (by omega) (by omega) (by omega) (by omega)).1 (mn_b (by omega) (by omega) (by omega) (by omega)).2 (by omega) (by omega)
theorem exts_ok : ∀ ps : List Ex, WFs ps → ∀ e ∈ ps, (ext e).1 = sz e ∧ -LB (lvs ps) ≤ (ext e).2 ∧ (ext e).2 ≤ LB (lvs ps)
  | [], _, e, m => (List.not_mem_nil m).elim
  | p :: ps, w, e, m => by
    rw [WFs] at w
    rcases List.mem_cons.mp m with he | m'
    · obtain ⟨a1, a2, a3⟩ := ext_ok p w.1
      have := LB_mono (lvs_mem (ps := p :: ps) (e := p) List.mem_cons_self)
      rw [he]
      exact ⟨a1, by omega, by omega⟩
    · obtain ⟨a1, a2, a3⟩ := exts_ok ps w.2 e m'
      have := LB_mono (lvs_tail (p := p) (ps := ps))
      exact ⟨a1, by omega, by omega⟩
end
end Tx
namespace Tx
open PySem Mi
theorem lim_B {n : Nat} {i : Int} (hn : n ≤ 13) (h1 : -LB n ≤ i) (h2 : i ≤ LB n) : okI i = true := by
  have hm := LB_mono hn
  have h3 : LB 13 = 10 ^ 650 := by simp only [LB]; decide +kernel
  have h4 : (10 ^ 650 : Int).natAbs < LIM := by unfold LIM; decide +kernel
  unfold okI
  refine decide_eq_true ?_
  rw [h3] at hm
  have : i.natAbs ≤ (10 ^ 650 : Int).natAbs := by omega
  omega
theorem sz_ok {e : Ex} (w : WF e) : okI (sz e) = true := by
  obtain ⟨z1, z2⟩ := wf_sz w
  exact lim_ok z1 (Int.le_trans z2 mxS_lt)
section
variable {h : Sh}
theorem x_grp3 {K : Nat} {x : PyData} {p : Int × Int} {s t : Int} (hx : Cl (K + 2) 8 [.d x] h = .ok (.d (ptE p)) h) : Cl (K + 3) 8 [.d (.tuple [.str "seq", .tuple [x, .int s, .int t]])] h = .ok (.d (ptE ([p, lf s, lf t].foldl (stE "seq") (0, 0)))) h := by
  refine x_grp (K := K + 1) (h := h) (w := "seq") (zs := [(x, p), (.int s, lf s), (.int t, lf t)]) (by simp) (show 3 ≤ SZ by decide) fun z m => ?_
  simp only [List.mem_cons, List.not_mem_nil, or_false] at m
  rcases m with rfl | rfl | rfl
  · exact hx
  · exact x_leaf
  · exact x_leaf
mutual
theorem p8 : ∀ (e : Ex) (k : Nat), WF e → lv e ≤ 13 → Cl (k + 3 * lv e) 8 [.d (job e)] h = .ok (.d (ptE (ext e))) h
  | .load v s, k, w, l => by
    rw [job, lv, ext]
    exact x_leaf (k := k + 1)
  | .app op ps s, k, w, l => by
    rw [WF] at w
    obtain ⟨_, ⟨_, hl⟩, wp, _⟩ := w
    rw [lv] at l
    have q := p8s ps (k + 1) wp (by omega)
    have lp : 0 < k + 1 + 3 * lvs ps := by omega
    obtain ⟨K, eK⟩ : ∃ K, k + 1 + 3 * lvs ps = K + 1 := ⟨k + 3 * lvs ps, by omega⟩
    have q2 := x_grp (K := K) (h := h) (w := "par") (zs := ps.map fun e => (job e, ext e)) (by simp) (by rw [List.length_map]; exact small400 hl) fun z m => by
      obtain ⟨e, m', rfl⟩ := List.mem_map.mp m
      rw [← eK]
      exact q e m'
    rw [List.map_map, List.map_map] at q2
    rw [job, jobs_map, ext, exts_map, lv, show k + 3 * (1 + lvs ps) = K + 3 by omega]
    exact x_grp3 q2
  | .each op c e s, k, w, l => by
    rw [WF] at w
    rw [lv] at l
    obtain ⟨_, cc, we, _⟩ := w
    obtain ⟨b1, b2, b3⟩ := ext_ok e we
    have q := p8 e k we (by omega)
    obtain ⟨K, eK⟩ : ∃ K, k + 3 * lv e = K + 1 := ⟨k + 3 * lv e - 1, by have := lv_pos e; omega⟩
    rw [eK] at q
    have q2 := x_mul (w := "copies") (by decide) cc (by rw [b1]; exact sz_ok we) (lim_B (by omega) b2 b3) q
    rw [if_pos rfl] at q2
    rw [job, ext, lv, show k + 3 * (1 + lv e) = (K + 1) + 3 by omega]
    refine x_grp3 (K := K + 1) ?_
    have q' := p8 e (k + 1) we (by omega)
    rw [show k + 1 + 3 * lv e = K + 1 + 1 by omega] at q'
    have q3 := x_mul (w := "copies") (by decide) cc (by rw [b1]; exact sz_ok we) (lim_B (by omega) b2 b3) q'
    rw [if_pos rfl] at q3
    exact q3
  | .fold op c e s, k, w, l => by
    rw [WF] at w
    rw [lv] at l
    obtain ⟨_, cc, we, _⟩ := w
    obtain ⟨b1, b2, b3⟩ := ext_ok e we
    have q := p8 e k we (by omega)
    have lp := lv_pos e
    obtain ⟨K, eK⟩ : ∃ K, k + 3 * lv e = K + 1 := ⟨k + 3 * lv e - 1, by omega⟩
    obtain ⟨K', eK'⟩ : ∃ K', K = K' + 1 := ⟨K - 1, by omega⟩
    rw [eK] at q
    have q2 := x_grp (K := K) (h := h) (w := "seq") (zs := [(job e, ext e), (.int (0 - sz e), lf (0 - sz e))]) (by simp) (show 2 ≤ SZ by decide) fun z m => by
      simp only [List.mem_cons, List.not_mem_nil, or_false] at m
      rcases m with rfl | rfl
      · exact q
      · rw [eK']; exact x_leaf
    have z1 : ([ext e, lf (0 - sz e)].foldl (stE "seq") (0, 0)).1 = 0 := by
      simp only [List.foldl, stS, lf, b1]
      omega
    have we2 := wf_sz we
    rw [mxS_eq] at we2
    have LBp := LB_pos (lv e)
    have z2 : okI ([ext e, lf (0 - sz e)].foldl (stE "seq") (0, 0)).2 = true := by
      refine lim_B (n := 1 + lv e) (by omega) ?_ ?_
      all_goals
        rw [show LB (1 + lv e) = 10 ^ 50 * LB (lv e) by rw [Nat.add_comm, LB], c50]
        simp only [List.foldl, stS, Int.zero_add]
        have q2 := lf_b (i := 0 - sz e) (B := 1000000000000000000 * LB (lv e)) (by omega) (by omega)
        have q3 := mn_b (a := 0) (b := (ext e).2) (B := 1000000000000000000 * LB (lv e)) (by omega) (by omega) (by omega) (by omega)
        have q4 := mn_b (a := mn 0 (ext e).2) (b := (ext e).1 + (lf (0 - sz e)).2) (B := 2000000000000000000 * LB (lv e)) (by omega) (by omega) (by rw [b1]; omega) (by rw [b1]; omega)
        omega
    have q3 := x_mul (K := K + 1) (w := "repeat") (by decide) cc (by rw [z1]; rfl) z2 q2
    rw [if_neg (by decide)] at q3
    have q4 := x_grp (K := K + 2) (h := h) (w := "seq") (zs := [(.int s, lf s), (.tuple [.str "repeat", .int c, .tuple [.str "seq", .tuple ([(job e, ext e), (.int (0 - sz e), lf (0 - sz e))].map (·.1))]], _)]) (by simp) (show 2 ≤ SZ by decide) fun z m => by
      simp only [List.mem_cons, List.not_mem_nil, or_false] at m
      rcases m with rfl | rfl
      · exact x_leaf
      · exact q3
    rw [job, ext, lv, show k + 3 * (1 + lv e) = K + 2 + 2 by omega]
    exact q4
theorem p8s : ∀ (ps : List Ex) (k : Nat), WFs ps → lvs ps ≤ 13 → ∀ e ∈ ps, Cl (k + 3 * lvs ps) 8 [.d (job e)] h = .ok (.d (ptE (ext e))) h
  | [], _, _, _, e, m => (List.not_mem_nil m).elim
  | p :: ps, k, w, l, e, m => by
    rw [WFs] at w
    rcases List.mem_cons.mp m with he | m'
    · have hp := lvs_mem (ps := p :: ps) (e := p) List.mem_cons_self
      have q := p8 p (k + 3 * (lvs (p :: ps) - lv p)) w.1 (by omega)
      rw [show k + 3 * (lvs (p :: ps) - lv p) + 3 * lv p = k + 3 * lvs (p :: ps) by omega] at q
      rw [he]
      exact q
    · have ht := lvs_tail (p := p) (ps := ps)
      have q := p8s ps (k + 3 * (lvs (p :: ps) - lvs ps)) w.2 (by omega) e m'
      rw [show k + 3 * (lvs (p :: ps) - lvs ps) + 3 * lvs ps = k + 3 * lvs (p :: ps) by omega] at q
      exact q
end
/-- net of an expression's job: its size -/
theorem p11 {e : Ex} {k : Nat} (w : WF e) (l : lv e ≤ 13) (m : (meas 13 (job e)).isSome = true) : Cl (k + 42) 11 [.d (job e)] h = .ok (.d (.int (sz e))) h := by
  rw [Cl, call_at φ11 rfl]
  refine fin_end ?_
  have c7 : Cl (k + 41) 7 [.d (job e)] h = .ok (.d .none) h := by
    rw [Cl, call_at φ7 rfl]
    have t : tru (E84 (k + 40) (.call 6 [.var 0]) [.v (.d (job e))] h) = .ok true h := t_b ((e_call rfl).trans ((p6 (k := k + 10)).trans (by rw [m])))
    show fin (evSs (Cf84 (k + 40)) (GT gs) 1000 [.iff (.not (.call 6 [.var 0])) [.raise 1] []] [.v (.d (job e))] h) = _
    rw [s_ifF (t_nF t)]
    rfl
  have c10 : Cl (k + 41) 10 [.d (job e)] h = .ok (.d (.int (sz e))) h := by
    rw [Cl, call_at φ10 rfl]
    refine fin_end (s_ret (e_ix (x := ptE (ext e)) ?_ rfl ?_))
    · refine (e_call rfl).trans ?_
      have := p8 (h := h) e (k + 40 - 3 * lv e) w l
      rw [show k + 40 - 3 * lv e + 3 * lv e = k + 40 by omega] at this
      exact this
    · rw [ptE, (ext_ok e w).1]; exact ix_0
  have s1 : evS (Cf84 (k + 41)) (GT gs) 1000 (.expr (.call 7 [.var 0])) [.v (.d (job e))] h = .ok (.nx [.v (.d (job e))]) h := by
    rw [evS, e_call rfl]
    show (Cl (k + 41) 7 [.d (job e)] h).bind _ = _
    rw [c7]; rfl
  exact (s_step s1).trans (s_ret ((e_call rfl).trans c10))
end
end Tx
namespace Tx
open PySem Mi
theorem φ22 : ΦT ds 22 = some f22 := rfl
theorem φ23 : ΦT ds 23 = some f23 := rfl
theorem φ24 : ΦT ds 24 = some f24 := rfl
theorem φ25 : ΦT ds 25 = some f25 := rfl
theorem φ26 : ΦT ds 26 = some f26 := rfl
/-! ### power -/
theorem small_ok {i : Int} (h0 : 0 ≤ i) (h : i ≤ 1000000000000) : okI i = true := lim_ok h0 (by rw [mx]; omega)
theorem mul_small {a b : Int} (a0 : 0 ≤ a) (a1 : a < 997) (b0 : 0 ≤ b) (b1 : b < 997) : binD .Mult (.int a) (.int b) = some (.int (a * b)) := by
  show (if okI a && okI b then some (PyData.int (a * b)) else none) = _
  rw [small_ok a0 (by omega), small_ok b0 (by omega)]
  rfl
theorem mod997 {a : Int} : binD .Mod (.int a) (.int 997) = some (.int (a % 997)) := rfl
theorem half {e : Int} : binD .FloorDiv (.int e) (.int 2) = some (.int (e / 2)) := by
  show (if decide ((0 : Int) < 2) && okI 2 then some (PyData.int (e / 2)) else none) = _
  rw [small_ok (by decide) (by decide)]
  rfl
theorem emod_pow (x m : Int) : ∀ n : Nat, (x % m) ^ n % m = x ^ n % m
  | 0 => by rw [Int.pow_zero, Int.pow_zero]
  | n + 1 => by rw [Int.pow_succ, Int.pow_succ, Int.mul_emod, emod_pow x m n, Int.emod_emod, ← Int.mul_emod]
theorem bit1 {e : Int} : binD .BitAnd (.int e) (.int 1) = some (.int (e % 2)) := by
  show some (PyData.int (Builtin.bitAnd e 1)) = _
  rw [PyProof.Rows.bitAnd_m1]
def body22 : List Ts := [.iff (.cmp .Eq (.bin .BitAnd (.var 1) (.cst (.int 1))) (.cst (.int 1))) [.asg (.n 2) (.bin .Mod (.bin .Mult (.var 2) (.var 0)) (.glob 7))] [], .asg (.n 0) (.bin .Mod (.bin .Mult (.var 0) (.var 0)) (.glob 7)), .asg (.n 1) (.bin .FloorDiv (.var 1) (.cst (.int 2)))]
abbrev en22 (b e f : Int) : En := [.v (.d (.int b)), .v (.d (.int e)), .v (.d (.int f))]
section
variable {h : Sh}
theorem turn22 {K : Nat} {b e f : Int} (b0 : 0 ≤ b) (b1 : b < 997) (f0 : 0 ≤ f) (f1 : f < 997) (e0 : 0 ≤ e) (e1 : e ≤ mxI) :
    evSs (Cf84 K) (GT gs) 1000 body22 (en22 b e f) h = .ok (.nx (en22 (b * b % 997) (e / 2) (if e % 2 = 1 then f * b % 997 else f))) h := by
  have t : tru (E84 K (.cmp .Eq (.bin .BitAnd (.var 1) (.cst (.int 1))) (.cst (.int 1))) (en22 b e f) h) = .ok (decide (e % 2 = 1)) h := t_cmp (e_bin rfl rfl bit1) rfl (cmp_eq.trans eq_int)
  have rest : ∀ f' : Int, evSs (Cf84 K) (GT gs) 1000 [.asg (.n 0) (.bin .Mod (.bin .Mult (.var 0) (.var 0)) (.glob 7)), .asg (.n 1) (.bin .FloorDiv (.var 1) (.cst (.int 2)))] (en22 b e f') h = .ok (.nx (en22 (b * b % 997) (e / 2) f')) h := fun f' =>
    (s_asg (e_bin (e_bin rfl rfl (mul_small b0 b1 b0 b1)) (e_glob g7) mod997) rfl).trans ((s_asg (e_bin rfl rfl half) rfl).trans (by rw [evSs]; rfl))
  unfold body22
  by_cases c : e % 2 = 1
  · rw [if_pos c]
    refine (s_ifN (t.trans (by rw [decide_eq_true c])) ((s_asg (e_bin (e_bin rfl rfl (mul_small f0 f1 b0 b1)) (e_glob g7) mod997) rfl).trans (by rw [evSs]; rfl))).trans (rest _)
  · rw [if_neg c]
    exact (s_ifF (t.trans (by rw [decide_eq_false c]))).trans (rest _)
def pw (f b : Int) (e : Nat) : Int := f * b ^ e % 997
theorem pw_step {f b : Int} {e : Nat} : pw (if ((e : Nat) : Int) % 2 = 1 then f * b % 997 else f) (b * b % 997) (e / 2) = pw f b e := by
  unfold pw
  have hb : ∀ g : Int, g * (b * b % 997) ^ (e / 2) % 997 = g * (b * b) ^ (e / 2) % 997 := fun g => by
    rw [Int.mul_emod, emod_pow, ← Int.mul_emod]
  have hp : (b * b) ^ (e / 2) = b ^ (2 * (e / 2)) := by rw [Int.pow_mul, show b ^ 2 = b * b by rw [Int.pow_succ, Int.pow_succ, Int.pow_zero, Int.one_mul]]
  rw [hb, hp]
  by_cases c : e % 2 = 1
  · have c' : ((e : Nat) : Int) % 2 = 1 := by omega
    rw [if_pos c', Int.mul_emod, Int.emod_emod, ← Int.mul_emod]
    have : e = 2 * (e / 2) + 1 := by omega
    conv => rhs; rw [this, Int.pow_succ]
    rw [Int.mul_assoc, Int.mul_comm b]
  · have c' : ¬ ((e : Nat) : Int) % 2 = 1 := by omega
    rw [if_neg c']
    have : e = 2 * (e / 2) := by omega
    rw [← this]
theorem pw0 {f b : Int} (f0 : 0 ≤ f) (f1 : f < 997) : pw f b 0 = f := by
  unfold pw
  rw [Int.pow_zero, Int.mul_one, Int.emod_eq_of_lt f0 f1]
theorem wh22 {K : Nat} : ∀ (n m : Nat) (b f : Int) (e : Nat), e < 2 ^ n → n < m → (0 ≤ b ∧ b < 997) → (0 ≤ f ∧ f < 997) → (e : Int) ≤ mxI →
    ∃ b' : Int, whLoop (fun e g => tru (E84 K (.cmp .Gt (.var 1) (.cst (.int 0))) e g)) (evSs (Cf84 K) (GT gs) 1000 body22) m (en22 b e f) h = .ok (.nx (en22 b' 0 (pw f b e))) h := by
  have stop : ∀ (m : Nat) (b f : Int), (0 ≤ f ∧ f < 997) → whLoop (fun e g => tru (E84 K (.cmp .Gt (.var 1) (.cst (.int 0))) e g)) (evSs (Cf84 K) (GT gs) 1000 body22) (m + 1) (en22 b ((0 : Nat) : Int) f) h = .ok (.nx (en22 b 0 (pw f b 0))) h := fun m b f hf => by
    rw [pw0 hf.1 hf.2, whLoop]
    have t : tru (E84 K (.cmp .Gt (.var 1) (.cst (.int 0))) (en22 b ((0 : Nat) : Int) f) h) = .ok false h := t_cmp rfl rfl rfl
    rw [t]
    rfl
  intro n
  induction n with
  | zero =>
    intro m b f e he hm hb hf hx
    obtain ⟨m', rfl⟩ : ∃ m', m = m' + 1 := ⟨m - 1, by omega⟩
    have : e = 0 := by simpa using he
    subst this
    exact ⟨b, stop m' b f hf⟩
  | succ n ih =>
    intro m b f e he hm hb hf hx
    obtain ⟨m', rfl⟩ : ∃ m', m = m' + 1 := ⟨m - 1, by omega⟩
    by_cases e0 : e = 0
    · subst e0
      exact ⟨b, stop m' b f hf⟩
    · have t : tru (E84 K (.cmp .Gt (.var 1) (.cst (.int 0))) (en22 b e f) h) = .ok true h := t_cmp rfl rfl (show some (decide ((0 : Int) < e)) = _ by rw [decide_eq_true (by omega)])
      have b2 : 0 ≤ b * b % 997 ∧ b * b % 997 < 997 := ⟨Int.emod_nonneg _ (by decide), Int.emod_lt_of_pos _ (by decide)⟩
      have f2 : 0 ≤ (if (e : Int) % 2 = 1 then f * b % 997 else f) ∧ (if (e : Int) % 2 = 1 then f * b % 997 else f) < 997 := by
        split
        · exact ⟨Int.emod_nonneg _ (by decide), Int.emod_lt_of_pos _ (by decide)⟩
        · exact hf
      obtain ⟨b', q⟩ := ih m' (b * b % 997) (if (e : Int) % 2 = 1 then f * b % 997 else f) (e / 2) (by rw [Nat.pow_succ] at he; omega) (by omega) b2 f2 (by omega)
      refine ⟨b', ?_⟩
      rw [whLoop, t]
      show ((evSs (Cf84 K) (GT gs) 1000 body22 (en22 b e f) h).bind _) = _
      rw [turn22 hb.1 hb.2 hf.1 hf.2 (by omega) hx]
      have e2 : (e : Int) / 2 = ((e / 2 : Nat) : Int) := by omega
      rw [pw_step] at q
      rw [e2]
      exact q
theorem p22 {k : Nat} {b : Int} {e : Nat} (hb : 0 ≤ b ∧ b < 997) (he : (e : Int) ≤ mxI) : Cl (k + 1) 22 [.d (.int b), .d (.int e)] h = .ok (.d (.int (pw 1 b e))) h := by
  rw [Cl, call_at φ22 rfl]
  refine fin_end ((s_asg rfl rfl).trans ?_)
  have h2 : e < 2 ^ 100 := by
    rw [mx] at he
    have : (2 : Nat) ^ 100 = 1267650600228229401496703205376 := by decide +kernel
    omega
  obtain ⟨b', q⟩ := wh22 (h := h) (K := k) 100 1000 b 1 e h2 (by decide) hb (by decide) he
  exact (s_while q).trans (s_ret rfl)
/-! ### the rest of the values -/
def prd (vs : List Int) (a : Int) : Int := vs.foldl (fun a v => a * v % 997) a
theorem loop23 {K : Nat} {l : PyData} : ∀ (vs : List Int) (a : Int) (s2 : Sl), (0 ≤ a ∧ a < 997) → (∀ v ∈ vs, 0 ≤ v ∧ v < 997) → ∃ s2', forLoop (evSs (Cf84 K) (GT gs) 1000 [.asg (.n 1) (.bin .Mod (.bin .Mult (.var 1) (.var 2)) (.glob 7))]) (.n 2) ((vs.map PyData.int).map .d) [.v (.d l), .v (.d (.int a)), s2] h =
    .ok (.nx [.v (.d l), .v (.d (.int (prd vs a))), s2']) h
  | [], a, s2, _, _ => ⟨s2, rfl⟩
  | v :: vs, a, s2, ha, hv => by
    have hv0 := hv v List.mem_cons_self
    obtain ⟨s2', ih⟩ := loop23 (K := K) (l := l) vs (a * v % 997) (.v (.d (.int v))) ⟨Int.emod_nonneg _ (by decide), Int.emod_lt_of_pos _ (by decide)⟩ fun u m => hv u (List.mem_cons_of_mem _ m)
    refine ⟨s2', ?_⟩
    have b : evSs (Cf84 K) (GT gs) 1000 [.asg (.n 1) (.bin .Mod (.bin .Mult (.var 1) (.var 2)) (.glob 7))] [.v (.d l), .v (.d (.int a)), .v (.d (.int v))] h = .ok (.nx [.v (.d l), .v (.d (.int (a * v % 997))), .v (.d (.int v))]) h :=
      (s_asg (e_bin (e_bin rfl rfl (mul_small ha.1 ha.2 hv0.1 hv0.2)) (e_glob g7) mod997) rfl).trans (by rw [evSs]; rfl)
    refine (fl_cons (env' := [.v (.d l), .v (.d (.int a)), .v (.d (.int v))]) rfl).trans ?_
    rw [b]
    exact ih
theorem p23 {k : Nat} {vs : List Int} (hv : ∀ v ∈ vs, 0 ≤ v ∧ v < 997) : Cl (k + 1) 23 [.d (.list (vs.map .int))] h = .ok (.d (.int (prd vs 1))) h := by
  rw [Cl, call_at φ23 rfl]
  refine fin_end ((s_asg rfl rfl).trans ?_)
  obtain ⟨s2, q⟩ := loop23 (h := h) (K := k) (l := .list (vs.map .int)) vs 1 .no (by decide) hv
  exact (s_for rfl rfl q).trans (s_ret rfl)
end
end Tx
namespace Tx
open PySem Mi
def comb (op : Str) (vs : List Int) : Int := if op = ("add" : Str) then vs.sum % 997 else if op = ("mul" : Str) then prd vs 1 else if op = ("min" : Str) then (minL vs).getD 0 else (maxL vs).getD 0
def combE (op : Str) (c v : Int) : Int := if op = ("add" : Str) then c * v % 997 else if op = ("mul" : Str) then pw 1 v c.toNat else v
mutual
def val : Ex → Int
  | .load v _ => v
  | .app op ps _ => comb op (vals ps)
  | .each op c e _ => combE op c (val e)
  | .fold op c e _ => combE op c (val e)
def vals : List Ex → List Int
  | [] => []
  | e :: r => val e :: vals r
end
theorem vals_map : ∀ ps : List Ex, vals ps = ps.map val
  | [] => by rw [vals]; rfl
  | e :: r => by rw [vals, vals_map r]; rfl
def Rg (v : Int) : Prop := 0 ≤ v ∧ v < 997
theorem rg_mod (a : Int) : Rg (a % 997) := ⟨Int.emod_nonneg _ (by decide), Int.emod_lt_of_pos _ (by decide)⟩
theorem rg_prd : ∀ (vs : List Int) (a : Int), Rg a → Rg (prd vs a)
  | [], a, h => h
  | v :: vs, a, _ => rg_prd vs (a * v % 997) (rg_mod _)
theorem fold_max : ∀ (r : List Int) (i : Int), Rg i → (∀ v ∈ r, Rg v) → Rg (r.foldl (fun m x => if x > m then x else m) i)
  | [], i, h, _ => h
  | x :: r, i, h, q => by
    rw [List.foldl_cons]
    refine fold_max r _ ?_ fun v m => q v (List.mem_cons_of_mem _ m)
    split
    · exact q x List.mem_cons_self
    · exact h
theorem fold_min : ∀ (r : List Int) (i : Int), Rg i → (∀ v ∈ r, Rg v) → Rg (r.foldl (fun m x => if x < m then x else m) i)
  | [], i, h, _ => h
  | x :: r, i, h, q => by
    rw [List.foldl_cons]
    refine fold_min r _ ?_ fun v m => q v (List.mem_cons_of_mem _ m)
    split
    · exact q x List.mem_cons_self
    · exact h
theorem rg_comb {op : Str} {vs : List Int} (h : ∀ v ∈ vs, Rg v) : Rg (comb op vs) := by
  unfold comb
  split
  · exact rg_mod _
  · split
    · exact rg_prd vs 1 ⟨by decide, by decide⟩
    · split
      · cases vs with
        | nil => exact ⟨Int.le_refl _, by decide⟩
        | cons i r => exact fold_min r i (h i List.mem_cons_self) fun v m => h v (List.mem_cons_of_mem _ m)
      · cases vs with
        | nil => exact ⟨Int.le_refl _, by decide⟩
        | cons i r => exact fold_max r i (h i List.mem_cons_self) fun v m => h v (List.mem_cons_of_mem _ m)
theorem rg_combE {op : Str} {c v : Int} (h : Rg v) : Rg (combE op c v) := by
  unfold combE
  split
  · exact rg_mod _
  · split
    · exact rg_mod _
    · exact h
mutual
theorem rg_val : ∀ e : Ex, WF e → Rg (val e)
  | .load v s, w => by
    rw [WF] at w
    rw [val]
    exact ⟨w.1.1, by have := w.1.2; omega⟩
  | .app op ps s, w => by
    rw [WF] at w
    rw [val, vals_map]
    exact rg_comb fun v m => by
      obtain ⟨e, m', rfl⟩ := List.mem_map.mp m
      exact rg_vals ps w.2.2.1 e m'
  | .each op c e s, w => by
    rw [WF] at w
    rw [val]
    exact rg_combE (rg_val e w.2.2.1)
  | .fold op c e s, w => by
    rw [WF] at w
    rw [val]
    exact rg_combE (rg_val e w.2.2.1)
theorem rg_vals : ∀ ps : List Ex, WFs ps → ∀ e ∈ ps, Rg (val e)
  | [], _, e, m => (List.not_mem_nil m).elim
  | p :: ps, w, e, m => by
    rw [WFs] at w
    rcases List.mem_cons.mp m with he | m'
    · rw [he]; exact rg_val p w.1
    · exact rg_vals ps w.2 e m'
end
section
variable {h : Sh}
theorem p24 {k : Nat} {op : Str} {vs : List Int} (hn : vs ≠ []) (hv : ∀ v ∈ vs, Rg v) : Cl (k + 2) 24 [.d (.str op), .d (.list (vs.map .int))] h = .ok (.d (.int (comb op vs))) h := by
  rw [Cl, call_at φ24 rfl]
  refine fin_end ?_
  have tw : ∀ s : Str, tru (E84 (k + 1) (.cmp .Eq (.var 0) (.cst (.str s))) [.v (.d (.str op)), .v (.d (.list (vs.map .int)))] h) = .ok (decide (op = s)) h := fun s => t_cmp rfl rfl (cmp_eq.trans eq_str)
  unfold comb
  by_cases c1 : op = ("add" : Str)
  · rw [if_pos c1]
    refine s_ifT ((tw _).trans (by rw [decide_eq_true c1])) (s_ret (e_bin (x := .int vs.sum) (e_bi (es_cons rfl es_nil) rfl ?_) (e_glob g7) rfl))
    show (intsOf (vs.map .int)).map _ = _
    rw [ints_map]
    rfl
  · rw [if_neg c1]
    refine (s_ifF ((tw _).trans (by rw [decide_eq_false c1]))).trans ?_
    by_cases c2 : op = ("mul" : Str)
    · rw [if_pos c2]
      exact s_ifT ((tw _).trans (by rw [decide_eq_true c2])) (s_ret ((e_call rfl).trans (p23 hv)))
    · rw [if_neg c2]
      refine (s_ifF ((tw _).trans (by rw [decide_eq_false c2]))).trans (s_ret ((e_ite (tw "min")).trans ?_))
      obtain ⟨i, r, rfl⟩ : ∃ i r, vs = i :: r := by
        cases vs with
        | nil => exact (hn rfl).elim
        | cons i r => exact ⟨i, r, rfl⟩
      by_cases c3 : op = ("min" : Str)
      · rw [if_pos c3, if_pos (decide_eq_true c3)]
        refine e_bi (es_cons rfl es_nil) rfl ?_
        show ((intsOf ((i :: r).map .int)).bind fun ns => (minL ns).map PyData.int) = _
        rw [ints_map]
        rfl
      · rw [if_neg c3, if_neg (by rw [decide_eq_false c3]; decide)]
        refine e_bi (es_cons rfl es_nil) rfl ?_
        show ((intsOf ((i :: r).map .int)).bind fun ns => (maxL ns).map PyData.int) = _
        rw [ints_map]
        rfl
theorem p25 {k : Nat} {op : Str} {c v : Int} (hc : 1 ≤ c ∧ c ≤ mxI) (hv : Rg v) : Cl (k + 2) 25 [.d (.str op), .d (.int c), .d (.int v)] h = .ok (.d (.int (combE op c v))) h := by
  rw [Cl, call_at φ25 rfl]
  refine fin_end ?_
  have tw : ∀ s : Str, tru (E84 (k + 1) (.cmp .Eq (.var 0) (.cst (.str s))) [.v (.d (.str op)), .v (.d (.int c)), .v (.d (.int v))] h) = .ok (decide (op = s)) h := fun s => t_cmp rfl rfl (cmp_eq.trans eq_str)
  unfold combE
  by_cases c1 : op = ("add" : Str)
  · rw [if_pos c1]
    refine s_ifT ((tw _).trans (by rw [decide_eq_true c1])) (s_ret (e_bin (x := .int (c * v)) (e_bin rfl rfl ?_) (e_glob g7) rfl))
    show (if okI c && okI v then some (PyData.int (c * v)) else none) = _
    rw [lim_ok (by omega) hc.2, small_ok hv.1 (by have := hv.2; omega)]
    rfl
  · rw [if_neg c1]
    refine (s_ifF ((tw _).trans (by rw [decide_eq_false c1]))).trans ?_
    by_cases c2 : op = ("mul" : Str)
    · rw [if_pos c2]
      refine s_ifT ((tw _).trans (by rw [decide_eq_true c2])) (s_ret ((e_call rfl).trans ?_))
      have e : c = ((c.toNat : Nat) : Int) := by omega
      have q := p22 (h := h) (k := k) (b := v) (e := c.toNat) hv (by omega)
      rw [← e] at q
      exact q
    · rw [if_neg c2]
      have c0 : decide (c = 0) = false := decide_eq_false (by omega)
      exact (s_ifF ((tw _).trans (by rw [decide_eq_false c2]))).trans ((s_ifF (t_cmp rfl rfl (cmp_eq.trans (eq_int.trans (by rw [c0]))))).trans (s_ret rfl))
theorem enX_fst (e : Ex) : ∃ w r, enX e = .tuple (.str w :: r) := by cases e <;> exact ⟨_, _, by rw [enX]⟩
mutual
theorem p26 : ∀ (e : Ex) (k : Nat), WF e → Cl (k + lv e + 2) 26 [.d (enX e)] h = .ok (.d (.int (val e))) h
  | .load v s, k, w => by
    rw [enX, val, lv, Cl, call_at φ26 rfl]
    exact fin_end (s_ifT (h1 := h) (t_cmp (e_ix rfl rfl ix_0) rfl (cmp_eq.trans eq_str)) (s_ret (e_ix rfl rfl ix_1)))
  | .app op ps s, k, w => by
    rw [WF] at w
    obtain ⟨_, ⟨l1, l2⟩, wp, _⟩ := w
    rw [enX, val, lv, show k + (1 + lvs ps) + 2 = (k + lvs ps + 2) + 1 by omega, Cl, call_at φ26 rfl]
    have q := p26s ps k wp
    have cz := comp_zip (C := Cf84 (k + lvs ps + 2)) (G := GT gs) (tg := .n 1) (elt := E84 (k + lvs ps + 2) (.call 26 [.var 1])) (env := [.v (.d (.tuple [.str "apply", .str op, .tuple (enXs ps), .int s])), .no]) (ps.map fun e => (enX e, PyData.int (val e))) (h := h) fun z m => by
      obtain ⟨e, m', rfl⟩ := List.mem_map.mp m
      exact ⟨_, rfl, (e_call rfl).trans (q e m')⟩
    have e1 : (ps.map fun e => (enX e, PyData.int (val e))).map (·.1) = enXs ps := by rw [List.map_map, enXs_map]; rfl
    have e2 : (ps.map fun e => (enX e, PyData.int (val e))).map (·.2) = (vals ps).map .int := by rw [List.map_map, vals_map, List.map_map]; rfl
    rw [e1, e2] at cz
    refine fin_end ((s_ifF (h1 := h) (t_cmp (e_ix rfl rfl ix_0) rfl (cmp_eq.trans (eq_str.trans rfl)))).trans (s_ifT (h1 := h) (t_cmp (e_ix rfl rfl ix_0) rfl (cmp_eq.trans (eq_str.trans rfl))) (s_ret ?_)))
    refine (e_call (es_cons (e_ix rfl rfl ix_1) (es_cons (e_comp (es_cons (e_ix rfl rfl ix_2) es_nil) rfl (by rw [enXs_map, List.length_map]; exact small400 l2) cz) es_nil))).trans (p24 (k := k + lvs ps) ?_ ?_)
    · rw [vals_map]
      intro z
      rw [List.map_eq_nil_iff] at z
      rw [z] at l1
      exact absurd l1 (by decide)
    · intro v m
      rw [vals_map] at m
      obtain ⟨e, m', rfl⟩ := List.mem_map.mp m
      exact rg_vals ps wp e m'
  | .each op c e s, k, w => by
    rw [WF] at w
    obtain ⟨_, cc, we, _⟩ := w
    rw [enX, val, lv, show k + (1 + lv e) + 2 = (k + lv e + 2) + 1 by omega, Cl, call_at φ26 rfl]
    have q := p26 e k we
    refine fin_end ((s_ifF (h1 := h) (t_cmp (e_ix rfl rfl ix_0) rfl (cmp_eq.trans (eq_str.trans rfl)))).trans ((s_ifF (h1 := h) (t_cmp (e_ix rfl rfl ix_0) rfl (cmp_eq.trans (eq_str.trans rfl)))).trans (s_ret ?_)))
    exact (e_call (es_cons (e_ix rfl rfl ix_1) (es_cons (e_ix rfl rfl ix_2) (es_cons ((e_call (es_cons (e_ix rfl rfl ix_3) es_nil)).trans q) es_nil)))).trans (p25 (k := k + lv e) cc (rg_val e we))
  | .fold op c e s, k, w => by
    rw [WF] at w
    obtain ⟨_, cc, we, _⟩ := w
    rw [enX, val, lv, show k + (1 + lv e) + 2 = (k + lv e + 2) + 1 by omega, Cl, call_at φ26 rfl]
    have q := p26 e k we
    refine fin_end ((s_ifF (h1 := h) (t_cmp (e_ix rfl rfl ix_0) rfl (cmp_eq.trans (eq_str.trans rfl)))).trans ((s_ifF (h1 := h) (t_cmp (e_ix rfl rfl ix_0) rfl (cmp_eq.trans (eq_str.trans rfl)))).trans (s_ret ?_)))
    exact (e_call (es_cons (e_ix rfl rfl ix_1) (es_cons (e_ix rfl rfl ix_2) (es_cons ((e_call (es_cons (e_ix rfl rfl ix_3) es_nil)).trans q) es_nil)))).trans (p25 (k := k + lv e) cc (rg_val e we))
theorem p26s : ∀ (ps : List Ex) (k : Nat), WFs ps → ∀ e ∈ ps, Cl (k + lvs ps + 2) 26 [.d (enX e)] h = .ok (.d (.int (val e))) h
  | [], _, _, e, m => (List.not_mem_nil m).elim
  | p :: ps, k, w, e, m => by
    rw [WFs] at w
    rcases List.mem_cons.mp m with he | m'
    · have hp := lvs_mem (ps := p :: ps) (e := p) List.mem_cons_self
      have q := p26 p (k + (lvs (p :: ps) - lv p)) w.1
      rw [show k + (lvs (p :: ps) - lv p) + lv p + 2 = k + lvs (p :: ps) + 2 by omega] at q
      rw [he]
      exact q
    · have ht := lvs_tail (p := p) (ps := ps)
      have q := p26s ps (k + (lvs (p :: ps) - lvs ps)) w.2 e m'
      rw [show k + (lvs (p :: ps) - lvs ps) + lvs ps + 2 = k + lvs (p :: ps) + 2 by omega] at q
      exact q
end
end
end Tx
namespace Tx
open PySem Mi
theorem φ27 : ΦT ds 27 = some f27 := rfl
theorem φ28 : ΦT ds 28 = some f28 := rfl
theorem φ29 : ΦT ds 29 = some f29 := rfl
theorem φ36 : ΦT ds 36 = some f36 := rfl
theorem φ37 : ΦT ds 37 = some f37 := rfl
theorem φ38 : ΦT ds 38 = some f38 := rfl
theorem φ40 : ΦT ds 40 = some f40 := rfl
theorem φ42 : ΦT ds 42 = some f42 := rfl
theorem exOf_ok {d : PyData} {e : Ex} (h : exOf d = some e) : WF e ∧ lv e ≤ 13 ∧ enX e = d ∧ (meas 13 (job e)).isSome = true ∧ pj 13 d = some e := by
  unfold exOf at h
  split at h
  · cases h
  · rename_i e' he
    split at h
    · rename_i hm
      cases h
      obtain ⟨a, b, c⟩ := pj_ok 13 d e he
      exact ⟨a, b, c, hm, he⟩
    · cases h
section
variable {h : Sh}
theorem chk {K : Nat} {d : PyData} {env : En} {i : Nat} (hv : E84 (K + 47) (.var i) env h = .ok (.d d) h) : E84 (K + 47) (.call 20 [.var i]) env h = (if (exOf d).isSome then .ok (.d .none) h else .ex ⟨2, none⟩ h) := (e_call (es_cons hv es_nil)).trans p20
theorem p27 {k : Nat} {d : PyData} : Cl (k + 48) 27 [.d d] h = (match exOf d with
    | some e => .ok (.d (.int (val e))) h
    | none => .ex ⟨2, none⟩ h) := by
  rw [Cl, call_at φ27 rfl]
  have c := chk (K := k) (d := d) (env := [.v (.d d)]) (i := 0) (h := h) rfl
  cases he : exOf d with
  | none =>
    rw [he] at c
    exact (congrArg fin (s_exprX c)).trans rfl
  | some e =>
    rw [he] at c
    obtain ⟨w, l, ed, _⟩ := exOf_ok he
    have q := p26 (h := h) e (k + 45 - lv e) w
    rw [show k + 45 - lv e + lv e + 2 = k + 47 by omega, ed] at q
    exact fin_end ((s_expr c).trans (s_ret ((e_call rfl).trans q)))
theorem p28 {k : Nat} {d : PyData} : Cl (k + 48) 28 [.d d] h = (match exOf d with
    | some e => .ok (.d (.int (sz e))) h
    | none => .ex ⟨2, none⟩ h) := by
  rw [Cl, call_at φ28 rfl]
  have c := chk (K := k) (d := d) (env := [.v (.d d)]) (i := 0) (h := h) rfl
  cases he : exOf d with
  | none =>
    rw [he] at c
    exact (congrArg fin (s_exprX c)).trans rfl
  | some e =>
    rw [he] at c
    obtain ⟨w, l, ed, _⟩ := exOf_ok he
    exact fin_end ((s_expr c).trans (s_ret (e_ix rfl rfl (by rw [← ed]; exact last_enX e))))
theorem p29 {k : Nat} {d : PyData} : Cl (k + 48) 29 [.d d] h = (match exOf d with
    | some e => .ok (.d (job e)) h
    | none => .ex ⟨2, none⟩ h) := by
  rw [Cl, call_at φ29 rfl]
  have c := chk (K := k) (d := d) (env := [.v (.d d)]) (i := 0) (h := h) rfl
  cases he : exOf d with
  | none =>
    rw [he] at c
    exact (congrArg fin (s_exprX c)).trans rfl
  | some e =>
    rw [he] at c
    obtain ⟨w, l, ed, _, hp⟩ := exOf_ok he
    have q := p21 (h := h) (k := k + 1) (d := d)
    rw [hp] at q
    exact fin_end ((s_expr c).trans (s_ret ((e_call rfl).trans q)))
/-- what is asked of a value, in three ways -/
def ask (d : PyData) (n : Nat) : PyData := match exOf d with
  | some e => if n = 0 then .int (val e) else if n = 1 then .int (sz e) else job e
  | none => .str "none"
theorem p40 {k : Nat} {d : PyData} {n : Nat} : Cl (k + 49) 40 [.d (.int n), .d d] h = .ok (.d (ask d n)) h := by
  rw [Cl, call_at φ40 rfl]
  have t0 : tru (E84 (k + 48) (.cmp .Eq (.var 0) (.cst (.int 0))) [.v (.d (.int n)), .v (.d d), .no] h) = .ok (decide (n = 0)) h := t_cmp rfl rfl (cmp_eq.trans (eq_int.trans (by congr 1; rw [decide_eq_decide]; omega)))
  have t1 : tru (E84 (k + 48) (.cmp .Eq (.var 0) (.cst (.int 1))) [.v (.d (.int n)), .v (.d d), .no] h) = .ok (decide (n = 1)) h := t_cmp rfl rfl (cmp_eq.trans (eq_int.trans (by congr 1; rw [decide_eq_decide]; omega)))
  have c27 : E84 (k + 48) (.call 27 [.var 1]) [.v (.d (.int n)), .v (.d d), .no] h = _ := (e_call rfl).trans (p27 (k := k) (d := d))
  have c28 : E84 (k + 48) (.call 28 [.var 1]) [.v (.d (.int n)), .v (.d d), .no] h = _ := (e_call rfl).trans (p28 (k := k) (d := d))
  have c29 : E84 (k + 48) (.call 29 [.var 1]) [.v (.d (.int n)), .v (.d d), .no] h = _ := (e_call rfl).trans (p29 (k := k) (d := d))
  have body : evSs (Cf84 (k + 48)) (GT gs) 1000 [.iff (.cmp .Eq (.var 0) (.cst (.int 0))) [.ret (.call 27 [.var 1])] [], .ret (.ite (.cmp .Eq (.var 0) (.cst (.int 1))) (.call 28 [.var 1]) (.call 29 [.var 1]))] [.v (.d (.int n)), .v (.d d), .no] h =
      (match exOf d with
      | some e => .ok (.rt (.d (ask d n))) h
      | none => .ex ⟨2, none⟩ h) := by
    unfold ask
    cases he : exOf d with
    | some e =>
      rw [he] at c27 c28 c29
      dsimp only
      by_cases h0 : n = 0
      · rw [if_pos h0]
        exact s_ifT (t0.trans (by rw [decide_eq_true h0])) (s_ret c27)
      · rw [if_neg h0]
        refine (s_ifF (t0.trans (by rw [decide_eq_false h0]))).trans (s_ret ((e_ite t1).trans ?_))
        by_cases h1 : n = 1
        · rw [if_pos h1, if_pos (decide_eq_true h1)]; exact c28
        · rw [if_neg h1, if_neg (by rw [decide_eq_false h1]; decide)]; exact c29
    | none =>
      rw [he] at c27 c28 c29
      dsimp only
      by_cases h0 : n = 0
      · exact s_ifX (t0.trans (by rw [decide_eq_true h0])) (s_retX c27)
      · refine (s_ifF (t0.trans (by rw [decide_eq_false h0]))).trans (s_retX ((e_ite t1).trans ?_))
        by_cases h1 : n = 1
        · rw [if_pos (decide_eq_true h1)]; exact c28
        · rw [if_neg (by rw [decide_eq_false h1]; decide)]; exact c29
  refine fin_end (s_end ?_)
  rw [evS]
  show (match evSs (Cf84 (k + 48)) (GT gs) 1000 [.iff (.cmp .Eq (.var 0) (.cst (.int 0))) [.ret (.call 27 [.var 1])] [], .ret (.ite (.cmp .Eq (.var 0) (.cst (.int 1))) (.call 28 [.var 1]) (.call 29 [.var 1]))] [.v (.d (.int n)), .v (.d d), .no] h with
    | .ex e h' => _
    | r => r) = _
  rw [body]
  unfold ask
  cases he : exOf d with
  | some e => rfl
  | none => rfl
end
end Tx
namespace Tx
open PySem Mi
theorem fermat : ∀ v : Nat, v < 997 → 0 < v → v ^ 996 % 997 = 1 := by decide +kernel
theorem pw_red {v : Int} {c : Nat} (h0 : 0 < v) (h1 : v < 997) : v ^ (c % 996) % 997 = v ^ c % 997 := by
  have e : v ^ 996 % 997 = 1 := by
    obtain ⟨n, rfl⟩ : ∃ n : Nat, v = n := ⟨v.toNat, by omega⟩
    have := fermat n (by omega) (by omega)
    have q : (((n ^ 996 : Nat) % 997 : Nat) : Int) = ((1 : Nat) : Int) := by rw [this]
    rw [Int.natCast_emod, Int.natCast_pow] at q
    exact q
  conv => rhs; rw [show c = 996 * (c / 996) + c % 996 by omega, Int.pow_add, Int.pow_mul, Int.mul_emod, ← emod_pow, e]
  rw [Int.one_pow]
  show _ = 1 % 997 * (v ^ (c % 996) % 997) % 997
  rw [show (1 % 997 : Int) = 1 from rfl, Int.one_mul, Int.emod_emod]
theorem prd_rep {v : Int} : ∀ (n : Nat) (a : Int), 0 ≤ a → a < 997 → prd (List.replicate n v) a = a * v ^ n % 997
  | 0, a, h0, h1 => by
    show a = _
    rw [Int.pow_zero, Int.mul_one, Int.emod_eq_of_lt h0 h1]
  | n + 1, a, h0, h1 => by
    show prd (List.replicate n v) (a * v % 997) = _
    rw [prd_rep n _ (Int.emod_nonneg _ (by decide)) (Int.emod_lt_of_pos _ (by decide)), Int.mul_emod, Int.emod_emod, ← Int.mul_emod, Int.pow_succ, Int.mul_assoc, Int.mul_comm v]
def stp (op : Str) (a v : Int) : Int := (if op = ("mul" : Str) then a * v else a + v) % 997
theorem stp_mul : ∀ (vs : List Int) (a : Int), vs.foldl (stp "mul") a = prd vs a
  | [], _ => rfl
  | v :: vs, a => by
    show vs.foldl (stp "mul") (stp "mul" a v) = prd vs (a * v % 997)
    rw [stp_mul]
    unfold stp
    rw [if_pos rfl]
theorem stp_add {op : Str} (hn : op ≠ ("mul" : Str)) : ∀ (vs : List Int) (a : Int), 0 ≤ a → a < 997 → vs.foldl (stp op) a = (a + vs.sum) % 997
  | [], a, h0, h1 => by
    show a = _
    rw [List.sum_nil, Int.add_zero, Int.emod_eq_of_lt h0 h1]
  | v :: vs, a, h0, h1 => by
    show vs.foldl (stp op) (stp op a v) = _
    have e : stp op a v = (a + v) % 997 := by unfold stp; rw [if_neg hn]
    rw [e, stp_add hn vs _ (Int.emod_nonneg _ (by decide)) (Int.emod_lt_of_pos _ (by decide)), List.sum_cons, Int.emod_add_emod, Int.add_assoc]
section
variable {h : Sh}
def body37 : List Ts := [.asg (.n 2) (.bin .Mod (.ite (.cmp .Eq (.var 0) (.cst (.str "mul"))) (.bin .Mult (.var 2) (.var 3)) (.bin .Add (.var 2) (.var 3))) (.cst (.int 997)))]
theorem loop37 {K : Nat} {op : Str} {l : PyData} : ∀ (vs : List Int) (a : Int) (s3 : Sl), Rg a → (∀ v ∈ vs, Rg v) → ∃ s3', forLoop (evSs (Cf84 K) (GT gs) 1000 body37) (.n 3) ((vs.map PyData.int).map .d) [.v (.d (.str op)), .v (.d l), .v (.d (.int a)), s3] h =
    .ok (.nx [.v (.d (.str op)), .v (.d l), .v (.d (.int (vs.foldl (stp op) a))), s3']) h
  | [], a, s3, _, _ => ⟨s3, rfl⟩
  | v :: vs, a, s3, ha, hv => by
    have hv0 := hv v List.mem_cons_self
    obtain ⟨s3', ih⟩ := loop37 (K := K) (op := op) (l := l) vs (stp op a v) (.v (.d (.int v))) (rg_mod _) fun u m => hv u (List.mem_cons_of_mem _ m)
    refine ⟨s3', ?_⟩
    have t : tru (E84 K (.cmp .Eq (.var 0) (.cst (.str "mul"))) [.v (.d (.str op)), .v (.d l), .v (.d (.int a)), .v (.d (.int v))] h) = .ok (decide (op = "mul")) h := t_cmp rfl rfl (cmp_eq.trans eq_str)
    have i : E84 K (.ite (.cmp .Eq (.var 0) (.cst (.str "mul"))) (.bin .Mult (.var 2) (.var 3)) (.bin .Add (.var 2) (.var 3))) [.v (.d (.str op)), .v (.d l), .v (.d (.int a)), .v (.d (.int v))] h = .ok (.d (.int (if op = ("mul" : Str) then a * v else a + v))) h := by
      refine (e_ite t).trans ?_
      by_cases c : op = ("mul" : Str)
      · rw [if_pos (decide_eq_true c), if_pos c]
        exact e_bin rfl rfl (mul_small ha.1 ha.2 hv0.1 hv0.2)
      · rw [if_neg (by rw [decide_eq_false c]; decide), if_neg c]
        exact e_bin rfl rfl rfl
    have b : evSs (Cf84 K) (GT gs) 1000 body37 [.v (.d (.str op)), .v (.d l), .v (.d (.int a)), .v (.d (.int v))] h = .ok (.nx [.v (.d (.str op)), .v (.d l), .v (.d (.int (stp op a v))), .v (.d (.int v))]) h :=
      (s_asg (e_bin i rfl mod997) rfl).trans (by rw [evSs]; rfl)
    refine (fl_cons (env' := [.v (.d (.str op)), .v (.d l), .v (.d (.int a)), .v (.d (.int v))]) rfl).trans ?_
    rw [b]
    exact ih
theorem p37 {k : Nat} {op : Str} {vs : List Int} (ho : op ∈ ops) (hn : op = "min" ∨ op = "max" → vs ≠ []) (hv : ∀ v ∈ vs, Rg v) : Cl (k + 1) 37 [.d (.str op), .d (.list (vs.map .int))] h = .ok (.d (.int (comb op vs))) h := by
  rw [Cl, call_at φ37 rfl]
  refine fin_end ?_
  have tw : ∀ s : Str, ∀ s2 s3, tru (E84 k (.cmp .Eq (.var 0) (.cst (.str s))) [.v (.d (.str op)), .v (.d (.list (vs.map .int))), s2, s3] h) = .ok (decide (op = s)) h := fun s _ _ => t_cmp rfl rfl (cmp_eq.trans eq_str)
  have t0 : tru (E84 k (.cmp .In (.var 0) (.tup [.cst (.str "min"), .cst (.str "max")])) [.v (.d (.str op)), .v (.d (.list (vs.map .int))), .no, .no] h) = .ok (decide (op ∈ [("min" : Str), "max"])) h := t_cmp rfl rfl (cmp_inT.trans (in_str (ys := ["min", "max"])))
  by_cases c0 : op ∈ [("min" : Str), "max"]
  · have c0' : op = "min" ∨ op = "max" := by
      rcases List.mem_cons.mp c0 with c | c
      · exact .inl c
      · exact .inr (List.mem_singleton.mp c)
    obtain ⟨i, r, rfl⟩ : ∃ i r, vs = i :: r := by
      cases vs with
      | nil => exact (hn c0' rfl).elim
      | cons i r => exact ⟨i, r, rfl⟩
    refine s_ifT (t0.trans (by rw [decide_eq_true c0])) (s_ret ((e_ite (tw "min" _ _)).trans ?_))
    unfold comb
    have n1 : ¬ op = ("add" : Str) := by rcases c0' with rfl | rfl <;> decide +kernel
    have n2 : ¬ op = ("mul" : Str) := by rcases c0' with rfl | rfl <;> decide +kernel
    rw [if_neg n1, if_neg n2]
    by_cases c3 : op = ("min" : Str)
    · rw [if_pos c3, if_pos (decide_eq_true c3)]
      refine e_bi (es_cons rfl es_nil) rfl ?_
      show ((intsOf ((i :: r).map .int)).bind fun ns => (minL ns).map PyData.int) = _
      rw [ints_map]
      rfl
    · rw [if_neg c3, if_neg (by rw [decide_eq_false c3]; decide)]
      refine e_bi (es_cons rfl es_nil) rfl ?_
      show ((intsOf ((i :: r).map .int)).bind fun ns => (maxL ns).map PyData.int) = _
      rw [ints_map]
      rfl
  · refine (s_ifF (t0.trans (by rw [decide_eq_false c0]))).trans ?_
    have ei : E84 k (.bi .int [.cmp .Eq (.var 0) (.cst (.str "mul"))]) [.v (.d (.str op)), .v (.d (.list (vs.map .int))), .no, .no] h = .ok (.d (.int (if op = ("mul" : Str) then 1 else 0))) h := by
      refine e_bi (es_cons (e_cmp rfl rfl (cmp_eq.trans eq_str)) es_nil) rfl ?_
      by_cases c : op = ("mul" : Str)
      · rw [decide_eq_true c, if_pos c]; rfl
      · rw [decide_eq_false c, if_neg c]; rfl
    refine (s_asg ei rfl).trans ?_
    obtain ⟨s3, q⟩ := loop37 (h := h) (K := k) (op := op) (l := .list (vs.map .int)) vs (if op = ("mul" : Str) then 1 else 0) .no (by split <;> (unfold Rg; decide)) hv
    refine (s_for rfl rfl q).trans (s_ret ?_)
    unfold comb
    by_cases c : op = ("mul" : Str)
    · subst c
      rw [if_pos rfl, stp_mul, if_neg (by decide +kernel), if_pos rfl]
      rfl
    · have ca : op = ("add" : Str) := by
        have ho' := ho
        unfold ops at ho'
        simp only [List.mem_cons, List.not_mem_nil, or_false] at ho' c0
        rcases ho' with a | a | a | a
        · exact a
        · exact (c a).elim
        · exact (c0 (.inl a)).elim
        · exact (c0 (.inr a)).elim
      rw [if_neg c, stp_add c vs 0 (by decide) (by decide), if_pos ca, Int.zero_add]
      rfl
theorem p42 {k : Nat} {d : PyData} (hd : exOf d = none) : Cl (k + 50) 42 [.d d] h = .ok (.d (.bool true)) h := by
  rw [Cl, call_at φ42 rfl]
  have a : ∀ n, ask d n = .str "none" := fun n => by unfold ask; rw [hd]
  have cz := comp_map (C := Cf84 (k + 49)) (G := GT gs) (tg := .n 1) (elt := E84 (k + 49) (.call 40 [.var 1, .var 0])) (env := [.v (.d d), .no]) (f := fun _ => .str "none") [.int 0, .int 1, .int 2] (h := h) fun x m => by
    have : ∃ n : Nat, x = .int n := by
      simp only [List.mem_cons, List.not_mem_nil, or_false] at m
      rcases m with rfl | rfl | rfl
      · exact ⟨0, rfl⟩
      · exact ⟨1, rfl⟩
      · exact ⟨2, rfl⟩
    obtain ⟨n, rfl⟩ := this
    have q := p40 (h := h) (k := k) (d := d) (n := n)
    rw [a] at q
    exact ⟨_, rfl, (e_call rfl).trans q⟩
  refine fin_end (s_ret (e_cmp (e_comp rfl rfl (by decide) cz) rfl (by decide +kernel)))
end
end Tx
namespace Tx
open PySem Mi
section
variable {h : Sh}
theorem e_neg1 {K : Nat} {env : En} {x z : PyData} {i : Nat} (hv : E84 K (.var i) env h = .ok (.d x) h) (e : ixD x (-1) = some z) : E84 K (.ix (.var i) (.neg (.cst (.int 1)))) env h = .ok (.d z) h := e_ix hv rfl e
theorem sum_szs (ps : List Ex) : biD .sum [.list ((ps.map sz).map .int)] = some (.int (szs ps)) := by
  show (intsOf ((ps.map sz).map .int)).map _ = _
  rw [ints_map, szs_map]
  rfl
theorem mul_c {c s : Int} (hc : 1 ≤ c ∧ c ≤ mxI) (hs : 0 ≤ s ∧ s ≤ mxS) : binD .Mult (.int c) (.int s) = some (.int (c * s)) := by
  show (if okI c && okI s then some (PyData.int (c * s)) else none) = _
  rw [lim_ok (by omega) hc.2, small_ok hs.1 (by have := hs.2; rw [mxS_eq] at this; exact this)]
  rfl
mutual
theorem p36 : ∀ (e : Ex) (k : Nat), WF e → Cl (k + lv e) 36 [.d (enX e)] h = .ok (.d (job e)) h
  | .load v s, k, w => by
    rw [enX, job, lv, Cl, call_at φ36 rfl]
    exact fin_end (s_ifT (h1 := h) (t_cmp (e_ix rfl rfl ix_0) rfl (cmp_eq.trans eq_str)) (s_ret (e_ix rfl rfl ix_2)))
  | .app op ps s, k, w => by
    rw [WF] at w
    obtain ⟨_, ⟨l1, l2⟩, wp, _⟩ := w
    rw [enX, job, lv, show k + (1 + lvs ps) = (k + lvs ps) + 1 by omega, Cl, call_at φ36 rfl]
    have q := p36s ps k wp
    have cz := comp_zip (C := Cf84 (k + lvs ps)) (G := GT gs) (tg := .n 5) (elt := E84 (k + lvs ps) (.call 36 [.var 5])) (env := [.v (.d (.tuple [.str "apply", .str op, .tuple (enXs ps), .int s])), .no, .no, .no, .no, .no, .no]) (ps.map fun e => (enX e, job e)) (h := h) fun z m => by
      obtain ⟨e, m', rfl⟩ := List.mem_map.mp m
      exact ⟨_, rfl, (e_call rfl).trans (q e m')⟩
    have e1 : (ps.map fun e => (enX e, job e)).map (·.1) = enXs ps := by rw [List.map_map, enXs_map]; rfl
    have e2 : (ps.map fun e => (enX e, job e)).map (·.2) = jobs ps := by rw [List.map_map, jobs_map]; rfl
    rw [e1, e2] at cz
    have cy := comp_zip (C := Cf84 (k + lvs ps)) (G := GT gs) (tg := .n 5) (elt := E84 (k + lvs ps) (.ix (.var 5) (.neg (.cst (.int 1))))) (env := [.v (.d (.tuple [.str "apply", .str op, .tuple (enXs ps), .int s])), .v (.d (.tuple (jobs ps))), .no, .no, .no, .no, .no]) (ps.map fun e => (enX e, PyData.int (sz e))) (h := h) fun z m => by
      obtain ⟨e, m', rfl⟩ := List.mem_map.mp m
      exact ⟨_, rfl, e_neg1 rfl (last_enX e)⟩
    have e3 : (ps.map fun e => (enX e, PyData.int (sz e))).map (·.1) = enXs ps := by rw [List.map_map, enXs_map]; rfl
    have e4 : (ps.map fun e => (enX e, PyData.int (sz e))).map (·.2) = (ps.map sz).map .int := by rw [List.map_map, List.map_map]; rfl
    rw [e3, e4] at cy
    have ll : (enXs ps).length ≤ SZ := by rw [enXs_map, List.length_map]; exact small400 l2
    refine fin_end ((s_ifF (h1 := h) (t_cmp (e_ix rfl rfl ix_0) rfl (cmp_eq.trans (eq_str.trans rfl)))).trans (s_ifT (h1 := h) (t_cmp (e_ix rfl rfl ix_0) rfl (cmp_eq.trans (eq_str.trans rfl))) ?_))
    refine (s_asg (e_bi (es_cons (e_comp (es_cons (e_ix rfl rfl ix_2) es_nil) rfl ll cz) es_nil) rfl rfl) rfl).trans (s_ret ?_)
    have i3 : E84 (k + lvs ps) (.ix (.var 0) (.cst (.int 3))) [.v (.d (.tuple [.str "apply", .str op, .tuple (enXs ps), .int s])), .v (.d (.tuple (jobs ps))), .no, .no, .no, .no, .no] h = .ok (.d (.int s)) h := e_ix rfl rfl ix_3
    have iS : E84 (k + lvs ps) (.bi .sum [.ofL (.comp (.ix (.var 5) (.neg (.cst (.int 1)))) (.n 5) .seq [.ix (.var 0) (.cst (.int 2))] [])]) [.v (.d (.tuple [.str "apply", .str op, .tuple (enXs ps), .int s])), .v (.d (.tuple (jobs ps))), .no, .no, .no, .no, .no] h = .ok (.d (.int (szs ps))) h := e_bi (es_cons (e_comp (es_cons (e_ix rfl rfl ix_2) es_nil) rfl ll cy) es_nil) rfl (sum_szs ps)
    exact e_tup (es_cons rfl (es_cons (e_tup (es_cons rfl (es_cons i3 (es_cons (e_bin rfl iS rfl) es_nil))) rfl (Nat.le_of_ble_eq_true rfl)) es_nil)) rfl (Nat.le_of_ble_eq_true rfl)
  | .each op c e s, k, w => by
    rw [WF] at w
    obtain ⟨_, cc, we, _⟩ := w
    rw [enX, job, lv, show k + (1 + lv e) = (k + lv e) + 1 by omega, Cl, call_at φ36 rfl]
    have q := p36 e k we
    refine fin_end ((s_ifF (h1 := h) (t_cmp (e_ix rfl rfl ix_0) rfl (cmp_eq.trans (eq_str.trans rfl)))).trans ((s_ifF (h1 := h) (t_cmp (e_ix rfl rfl ix_0) rfl (cmp_eq.trans (eq_str.trans rfl)))).trans ((s_asg rfl rfl).trans (s_ifT (h1 := h) (t_cmp rfl rfl (cmp_eq.trans eq_str)) (s_ret ?_)))))
    refine e_tup (es_cons rfl (es_cons (e_tup (es_cons (e_tup (es_cons rfl (es_cons rfl (es_cons ((e_call rfl).trans q) es_nil))) rfl (Nat.le_of_ble_eq_true rfl)) (es_cons rfl (es_cons (e_bin rfl (e_bin rfl (e_neg1 rfl (last_enX e)) (mul_c cc (wf_sz we))) rfl) es_nil))) rfl (Nat.le_of_ble_eq_true rfl)) es_nil)) rfl (Nat.le_of_ble_eq_true rfl)
  | .fold op c e s, k, w => by
    rw [WF] at w
    obtain ⟨_, cc, we, _⟩ := w
    rw [enX, job, lv, show k + (1 + lv e) = (k + lv e) + 1 by omega, Cl, call_at φ36 rfl]
    have q := p36 e k we
    refine fin_end ((s_ifF (h1 := h) (t_cmp (e_ix rfl rfl ix_0) rfl (cmp_eq.trans (eq_str.trans rfl)))).trans ((s_ifF (h1 := h) (t_cmp (e_ix rfl rfl ix_0) rfl (cmp_eq.trans (eq_str.trans rfl)))).trans ((s_asg rfl rfl).trans ((s_ifF (h1 := h) (t_cmp rfl rfl (cmp_eq.trans (eq_str.trans rfl)))).trans (s_ret ?_)))))
    refine e_tup (es_cons rfl (es_cons (e_tup (es_cons rfl (es_cons (e_tup (es_cons rfl (es_cons rfl (es_cons (e_tup (es_cons rfl (es_cons (e_tup (es_cons ((e_call rfl).trans q) (es_cons (e_bin rfl (e_neg1 rfl (last_enX e)) rfl) es_nil)) rfl (Nat.le_of_ble_eq_true rfl)) es_nil)) rfl (Nat.le_of_ble_eq_true rfl)) es_nil))) rfl (Nat.le_of_ble_eq_true rfl)) es_nil)) rfl (Nat.le_of_ble_eq_true rfl)) es_nil)) rfl (Nat.le_of_ble_eq_true rfl)
theorem p36s : ∀ (ps : List Ex) (k : Nat), WFs ps → ∀ e ∈ ps, Cl (k + lvs ps) 36 [.d (enX e)] h = .ok (.d (job e)) h
  | [], _, _, e, m => (List.not_mem_nil m).elim
  | p :: ps, k, w, e, m => by
    rw [WFs] at w
    rcases List.mem_cons.mp m with he | m'
    · have hp := lvs_mem (ps := p :: ps) (e := p) List.mem_cons_self
      have q := p36 p (k + (lvs (p :: ps) - lv p)) w.1
      rw [show k + (lvs (p :: ps) - lv p) + lv p = k + lvs (p :: ps) by omega] at q
      rw [he]
      exact q
    · have ht := lvs_tail (p := p) (ps := ps)
      have q := p36s ps (k + (lvs (p :: ps) - lvs ps)) w.2 e m'
      rw [show k + (lvs (p :: ps) - lvs ps) + lvs ps = k + lvs (p :: ps) by omega] at q
      exact q
end
end
end Tx
namespace Tx
open PySem Mi
section
variable {h : Sh}
theorem rep_map {v : Int} {n : Nat} : repL n [PyData.int v] = (List.replicate n v).map .int := by
  unfold repL
  induction n with
  | zero => rfl
  | succ n ih => rw [List.replicate_succ, List.flatten_cons, ih, List.replicate_succ, List.map_cons]; rfl
theorem pw_zero {c : Nat} (hc : 1 ≤ c) : pw 1 0 c = 0 := by
  unfold pw
  rw [show c = (c - 1) + 1 by omega, Int.pow_succ, Int.mul_zero, Int.mul_zero]
  rfl
/-- the tail of _law_number for each and fold -/
def tail38 : List Ts := [.iff (.cmp .Eq (.var 3) (.cst (.str "add"))) [.ret (.bin .Mod (.bin .Mult (.var 4) (.var 1)) (.cst (.int 997)))] [], .iff (.or [.cmp .NotEq (.var 3) (.cst (.str "mul")), .cmp .Eq (.var 1) (.cst (.int 0))]) [.ret (.var 1)] [], .ret (.call 37 [.cst (.str "mul"), .bin .Mult (.ofL (.disp [.var 1])) (.bin .Mod (.var 4) (.cst (.int 996)))])]
theorem t38 {k : Nat} {m w : PyData} {op : Str} {c v : Int} {x s : PyData} (hc : 1 ≤ c ∧ c ≤ mxI) (hv : Rg v) :
    evSs (Cf84 (k + 1)) (GT gs) 1000 tail38 [.v (.d m), .v (.d (.int v)), .v (.d w), .v (.d (.str op)), .v (.d (.int c)), .v (.d x), .v (.d s)] h = .ok (.rt (.d (.int (combE op c v)))) h := by
  have tw : ∀ s' : Str, tru (E84 (k + 1) (.cmp .Eq (.var 3) (.cst (.str s'))) [.v (.d m), .v (.d (.int v)), .v (.d w), .v (.d (.str op)), .v (.d (.int c)), .v (.d x), .v (.d s)] h) = .ok (decide (op = s')) h := fun s' => t_cmp rfl rfl (cmp_eq.trans eq_str)
  have tn : tru (E84 (k + 1) (.cmp .NotEq (.var 3) (.cst (.str "mul"))) [.v (.d m), .v (.d (.int v)), .v (.d w), .v (.d (.str op)), .v (.d (.int c)), .v (.d x), .v (.d s)] h) = .ok (!decide (op = "mul")) h := t_cmp rfl rfl (cmp_ne.trans (by rw [eq_str]; rfl))
  have t0 : tru (E84 (k + 1) (.cmp .Eq (.var 1) (.cst (.int 0))) [.v (.d m), .v (.d (.int v)), .v (.d w), .v (.d (.str op)), .v (.d (.int c)), .v (.d x), .v (.d s)] h) = .ok (decide (v = 0)) h := t_cmp rfl rfl (cmp_eq.trans eq_int)
  unfold combE
  by_cases c1 : op = ("add" : Str)
  · rw [if_pos c1]
    refine s_ifT ((tw _).trans (by rw [decide_eq_true c1])) (s_ret (e_bin (x := .int (c * v)) (e_bin rfl rfl ?_) rfl rfl))
    show (if okI c && okI v then some (PyData.int (c * v)) else none) = _
    rw [lim_ok (by omega) hc.2, small_ok hv.1 (by have := hv.2; omega)]
    rfl
  · rw [if_neg c1]
    refine (s_ifF ((tw _).trans (by rw [decide_eq_false c1]))).trans ?_
    by_cases c2 : op = ("mul" : Str)
    · rw [if_pos c2]
      by_cases c3 : v = 0
      · have e : pw 1 v c.toNat = v := by rw [c3]; exact pw_zero (by omega)
        rw [e]
        exact s_ifT ((t_orF (tn.trans (by rw [decide_eq_true c2]; rfl))).trans (t_or1.trans (t0.trans (by rw [decide_eq_true c3])))) (s_ret rfl)
      · refine (s_ifF ((t_orF (tn.trans (by rw [decide_eq_true c2]; rfl))).trans (t_or1.trans (t0.trans (by rw [decide_eq_false c3]))))).trans (s_ret ?_)
        obtain ⟨n, rfl⟩ : ∃ n : Nat, c = n := ⟨c.toNat, by omega⟩
        have em : binD .Mod (.int (n : Int)) (.int 996) = some (.int ((n % 996 : Nat) : Int)) := rfl
        have eb : binD .Mult (.list [.int v]) (.int ((n % 996 : Nat) : Int)) = some (.list ((List.replicate (n % 996) v).map .int)) := by
          show (if -1000 ≤ ((n % 996 : Nat) : Int) ∧ ((n % 996 : Nat) : Int) ≤ 1000 ∧ [PyData.int v].length ≤ 1000 then some (PyData.list (repL (((n % 996 : Nat) : Int).toNat) [PyData.int v])) else none) = _
          rw [if_pos ⟨by omega, by omega, by show 1 ≤ 1000; omega⟩, Int.toNat_natCast, rep_map]
        have q := p37 (h := h) (k := k) (op := "mul") (vs := List.replicate (n % 996) v) (by decide +kernel) (fun z => by rcases z with z | z <;> exact absurd z (by decide +kernel)) fun u hu => by rw [List.eq_of_mem_replicate hu]; exact hv
        refine (e_call (es_cons rfl (es_cons (e_bin (e_disp rfl rfl (Nat.le_of_ble_eq_true rfl)) (e_bin rfl rfl em) eb) es_nil))).trans (q.trans ?_)
        have r : comb "mul" (List.replicate (n % 996) v) = pw 1 v (n : Int).toNat := by
          unfold comb pw
          rw [if_neg (by decide +kernel), if_pos rfl, prd_rep _ _ (by decide) (by decide), Int.one_mul, Int.one_mul, Int.toNat_natCast, pw_red (by have := hv.1; omega) hv.2]
        rw [r]
    · rw [if_neg c2]
      exact s_ifT (t_orT (tn.trans (by rw [decide_eq_false c2]; rfl))) (s_ret rfl)
mutual
theorem p38 : ∀ (e : Ex) (k : Nat), WF e → Cl (k + lv e + 1) 38 [.d (enX e)] h = .ok (.d (.int (val e))) h
  | .load v s, k, w => by
    rw [enX, val, lv, Cl, call_at φ38 rfl]
    exact fin_end (s_ifT (h1 := h) (t_cmp (e_ix rfl rfl ix_0) rfl (cmp_eq.trans eq_str)) (s_ret (e_ix rfl rfl ix_1)))
  | .app op ps s, k, w => by
    rw [WF] at w
    obtain ⟨wo, ⟨l1, l2⟩, wp, _⟩ := w
    rw [enX, val, lv, show k + (1 + lvs ps) + 1 = (k + lvs ps + 1) + 1 by omega, Cl, call_at φ38 rfl]
    have q := p38s ps k wp
    have cz := comp_zip (C := Cf84 (k + lvs ps + 1)) (G := GT gs) (tg := .n 5) (elt := E84 (k + lvs ps + 1) (.call 38 [.var 5])) (env := [.v (.d (.tuple [.str "apply", .str op, .tuple (enXs ps), .int s])), .no, .no, .no, .no, .no, .no]) (ps.map fun e => (enX e, PyData.int (val e))) (h := h) fun z m => by
      obtain ⟨e, m', rfl⟩ := List.mem_map.mp m
      exact ⟨_, rfl, (e_call rfl).trans (q e m')⟩
    have e1 : (ps.map fun e => (enX e, PyData.int (val e))).map (·.1) = enXs ps := by rw [List.map_map, enXs_map]; rfl
    have e2 : (ps.map fun e => (enX e, PyData.int (val e))).map (·.2) = (vals ps).map .int := by rw [List.map_map, vals_map, List.map_map]; rfl
    rw [e1, e2] at cz
    refine fin_end ((s_ifF (h1 := h) (t_cmp (e_ix rfl rfl ix_0) rfl (cmp_eq.trans (eq_str.trans rfl)))).trans (s_ifT (h1 := h) (t_cmp (e_ix rfl rfl ix_0) rfl (cmp_eq.trans (eq_str.trans rfl))) (s_ret ?_)))
    refine (e_call (es_cons (e_ix rfl rfl ix_1) (es_cons (e_comp (es_cons (e_ix rfl rfl ix_2) es_nil) rfl (by rw [enXs_map, List.length_map]; exact small400 l2) cz) es_nil))).trans (p37 (k := k + lvs ps) wo ?_ ?_)
    · intro _
      rw [vals_map]
      intro z
      rw [List.map_eq_nil_iff] at z
      rw [z] at l1
      exact absurd l1 (by decide)
    · intro v m
      rw [vals_map] at m
      obtain ⟨e, m', rfl⟩ := List.mem_map.mp m
      exact rg_vals ps wp e m'
  | .each op c e s, k, w => by
    rw [WF] at w
    obtain ⟨_, cc, we, _⟩ := w
    rw [enX, val, lv, show k + (1 + lv e) + 1 = (k + lv e + 1) + 1 by omega, Cl, call_at φ38 rfl]
    have q := p38 e k we
    exact fin_end ((s_ifF (h1 := h) (t_cmp (e_ix rfl rfl ix_0) rfl (cmp_eq.trans (eq_str.trans rfl)))).trans ((s_ifF (h1 := h) (t_cmp (e_ix rfl rfl ix_0) rfl (cmp_eq.trans (eq_str.trans rfl)))).trans ((s_asg rfl rfl).trans ((s_asg ((e_call rfl).trans q) rfl).trans (t38 (k := k + lv e) cc (rg_val e we))))))
  | .fold op c e s, k, w => by
    rw [WF] at w
    obtain ⟨_, cc, we, _⟩ := w
    rw [enX, val, lv, show k + (1 + lv e) + 1 = (k + lv e + 1) + 1 by omega, Cl, call_at φ38 rfl]
    have q := p38 e k we
    exact fin_end ((s_ifF (h1 := h) (t_cmp (e_ix rfl rfl ix_0) rfl (cmp_eq.trans (eq_str.trans rfl)))).trans ((s_ifF (h1 := h) (t_cmp (e_ix rfl rfl ix_0) rfl (cmp_eq.trans (eq_str.trans rfl)))).trans ((s_asg rfl rfl).trans ((s_asg ((e_call rfl).trans q) rfl).trans (t38 (k := k + lv e) cc (rg_val e we))))))
theorem p38s : ∀ (ps : List Ex) (k : Nat), WFs ps → ∀ e ∈ ps, Cl (k + lvs ps + 1) 38 [.d (enX e)] h = .ok (.d (.int (val e))) h
  | [], _, _, e, m => (List.not_mem_nil m).elim
  | p :: ps, k, w, e, m => by
    rw [WFs] at w
    rcases List.mem_cons.mp m with he | m'
    · have hp := lvs_mem (ps := p :: ps) (e := p) List.mem_cons_self
      have q := p38 p (k + (lvs (p :: ps) - lv p)) w.1
      rw [show k + (lvs (p :: ps) - lv p) + lv p + 1 = k + lvs (p :: ps) + 1 by omega] at q
      rw [he]
      exact q
    · have ht := lvs_tail (p := p) (ps := ps)
      have q := p38s ps (k + (lvs (p :: ps) - lvs ps)) w.2 e m'
      rw [show k + (lvs (p :: ps) - lvs ps) + lvs ps + 1 = k + lvs (p :: ps) + 1 by omega] at q
      exact q
end
end
end Tx
namespace Tx
open PySem Mi
theorem m_int {n : Nat} {i : Int} {a b : Int} (h : meas n (.int i) = some (a, b)) : a = 1 := by
  cases n with
  | zero => rw [meas] at h; cases h
  | succ n =>
    rw [meas] at h
    · split at h
      · cases h; rfl
      · cases h
    · intro w ps z; cases z
    · intro w c x z; cases z
theorem m_tup {n : Nat} {w : Str} {ps : List PyData} {r : Int × Int} (h : meas n (.tuple [.str w, .tuple ps]) = some r) : ∃ m, measL m ps 1 0 = some r := by
  cases n with
  | zero => rw [meas] at h; cases h
  | succ n =>
    rw [meas] at h
    split at h
    · rename_i c; cases c
    · split at h
      · split at h
        · cases h
        · exact ⟨n, h⟩
      · cases h
theorem m_mul {n : Nat} {w : Str} {c : Int} {x : PyData} {a b : Int} (h : meas n (.tuple [.str w, .int c, x]) = some (a, b)) : ∃ m a' b', meas m x = some (a', b') ∧ a = 1 + a' := by
  cases n with
  | zero => rw [meas] at h; cases h
  | succ n =>
    rw [meas] at h
    split at h
    · rename_i c; cases c
    · split at h
      · split at h
        · split at h
          · cases h
          · rename_i a' b' e
            split at h
            · cases h
            · cases h
              exact ⟨n, a', b', e, rfl⟩
        · cases h
      · cases h
theorem mL_cons {n : Nat} {x : PyData} {xs : List PyData} {a b : Int} {r : Int × Int} (h : measL n (x :: xs) a b = some r) : ∃ p q, meas n x = some (p, q) ∧ a + p ≤ 400 ∧ measL n xs (a + p) (b + q) = some r := by
  rw [measL] at h
  split at h
  · cases h
  · rename_i p q e
    split at h
    · cases h
    · rename_i c
      exact ⟨p, q, e, by omega, h⟩
theorem mL_nil {n : Nat} {a b c d : Int} (h : measL n [] a b = some (c, d)) : c = a := by
  rw [measL] at h
  cases h; rfl
mutual
theorem jn_ok : ∀ (e : Ex) (n : Nat) (a b : Int), meas n (job e) = some (a, b) → a = jn e ∧ a ≤ 400
  | .load v s, n, a, b, h => by
    rw [job] at h
    have := m_int h
    rw [jn]
    exact ⟨this, by omega⟩
  | .app op ps s, n, a, b, h => by
    rw [job] at h
    obtain ⟨m, h⟩ := m_tup h
    obtain ⟨p1, q1, e1, _, h⟩ := mL_cons h
    obtain ⟨p2, q2, e2, _, h⟩ := mL_cons h
    obtain ⟨p3, q3, e3, l3, h⟩ := mL_cons h
    have e := mL_nil h
    have i2 := m_int e2
    have i3 := m_int e3
    obtain ⟨m', e1⟩ := m_tup e1
    have i1 := jns_ok ps m' 1 0 p1 q1 e1
    rw [jn]
    omega
  | .each op c x s, n, a, b, h => by
    rw [job] at h
    obtain ⟨m, h⟩ := m_tup h
    obtain ⟨p1, q1, e1, _, h⟩ := mL_cons h
    obtain ⟨p2, q2, e2, _, h⟩ := mL_cons h
    obtain ⟨p3, q3, e3, l3, h⟩ := mL_cons h
    have e := mL_nil h
    have i2 := m_int e2
    have i3 := m_int e3
    obtain ⟨m', a', b', e1, ea⟩ := m_mul e1
    have i1 := jn_ok x m' a' b' e1
    rw [jn]
    omega
  | .fold op c x s, n, a, b, h => by
    rw [job] at h
    obtain ⟨m, h⟩ := m_tup h
    obtain ⟨p1, q1, e1, _, h⟩ := mL_cons h
    obtain ⟨p2, q2, e2, l2, h⟩ := mL_cons h
    have e := mL_nil h
    have i1 := m_int e1
    obtain ⟨m', a', b', e2, ea⟩ := m_mul e2
    obtain ⟨m', e2⟩ := m_tup e2
    obtain ⟨p3, q3, e3, _, e2⟩ := mL_cons e2
    obtain ⟨p4, q4, e4, _, e2⟩ := mL_cons e2
    have e5 := mL_nil e2
    have i4 := m_int e4
    have i3 := jn_ok x m' p3 q3 e3
    rw [jn]
    omega
theorem jns_ok : ∀ (ps : List Ex) (n : Nat) (a0 b0 a b : Int), measL n (jobs ps) a0 b0 = some (a, b) → a = a0 + jns ps
  | [], n, a0, b0, a, b, h => by
    rw [jobs] at h
    have := mL_nil h
    rw [jns]
    omega
  | e :: ps, n, a0, b0, a, b, h => by
    rw [jobs] at h
    obtain ⟨p, q, e1, _, h⟩ := mL_cons h
    have i1 := jn_ok e n p q e1
    have i2 := jns_ok ps n _ _ a b h
    rw [jns]
    omega
end
theorem jn_400 {e : Ex} (m : (meas 13 (job e)).isSome = true) : jn e ≤ 400 := by
  cases he : meas 13 (job e) with
  | none => rw [he] at m; cases m
  | some r =>
    have := jn_ok e 13 r.1 r.2 he
    omega
/-! what can be shown -/
def Fit (b n : Nat) (d : PyData) : Prop := d.showable = true ∧ d.shown.length ≤ b ∧ d.depth ≤ n
def Fits (b n : Nat) (xs : List PyData) : Prop := PyData.showableAll xs = true ∧ piled (PyData.shownAll xs) ≤ b ∧ PyData.depthAll xs ≤ n
theorem Fit.mono {b n b' n' : Nat} {d : PyData} (f : Fit b n d) (h : b ≤ b') (g : n ≤ n') : Fit b' n' d := ⟨f.1, Nat.le_trans f.2.1 h, Nat.le_trans f.2.2 g⟩
theorem Fits.mono {b n b' n' : Nat} {d : List PyData} (f : Fits b n d) (h : b ≤ b') (g : n ≤ n') : Fits b' n' d := ⟨f.1, Nat.le_trans f.2.1 h, Nat.le_trans f.2.2 g⟩
theorem fits_nil {b n : Nat} : Fits b n [] := ⟨by rw [PyData.showableAll], by rw [PyData.shownAll]; exact Nat.zero_le _, by rw [PyData.depthAll]; exact Nat.zero_le _⟩
theorem fits_cons {b n c : Nat} {x : PyData} {xs : List PyData} (f : Fit b n x) (g : Fits c n xs) : Fits (b + 2 + c) n (x :: xs) := by
  refine ⟨?_, ?_, ?_⟩
  · rw [PyData.showableAll, f.1, g.1]; rfl
  · rw [PyData.shownAll, piled_cons]
    have := f.2.1
    have := g.2.1
    omega
  · rw [PyData.depthAll]
    exact Nat.max_le.mpr ⟨f.2.2, g.2.2⟩
theorem tupT_len (ts : List Str) : (tupleText ts).length ≤ piled ts + 3 := by
  have hl : (tupleText ts).length ≤ 1 + (Str.join ", " ts).length + 2 := by
    unfold tupleText
    rw [strLen_append, strLen_append]
    have : ((if ts.length == 1 then ",)" else ")" : String) : Str).length ≤ 2 := by split <;> decide
    have : (("(" : String) : Str).length = 1 := rfl
    omega
  cases ts with
  | nil =>
    have : (Str.join ", " []).length = 0 := rfl
    omega
  | cons t r =>
    have := join_length_add (t :: r) (by simp)
    omega
theorem lisT_len : ∀ ts : List Str, (listText ts).length ≤ piled ts + 3
  | [] => by decide
  | t :: r => by
    have h := textFrom_length_pos r 1 (("[" : Str) ++ (if (0 : Nat) > 0 then ", " else "" : String) ++ t) (Nat.succ_pos 0)
    have e : ((("[" : Str) ++ (if (0 : Nat) > 0 then ", " else "" : String) ++ t)).length = 1 + t.length := by
      rw [strLen_append, strLen_append]; rfl
    have hX : (listText (t :: r)).length = (textFrom 0 "[" (t :: r)).length + 1 := by
      show (textFrom 0 "[" (t :: r) ++ "]").length = _
      rw [strLen_append]; rfl
    have hY : (textFrom 0 "[" (t :: r)).length = (textFrom 1 (("[" : Str) ++ (if (0 : Nat) > 0 then ", " else "" : String) ++ t) r).length := rfl
    rw [hX, hY, h, e, piled_cons]; omega
theorem fit_tup {b n : Nat} {xs : List PyData} (f : Fits b n xs) : Fit (b + 3) (n + 1) (.tuple xs) := by
  refine ⟨?_, ?_, ?_⟩
  · rw [PyData.showable]; exact f.1
  · rw [PyData.shown]
    have := tupT_len (PyData.shownAll xs)
    have := f.2.1
    omega
  · rw [PyData.depth]
    exact Nat.succ_le_succ f.2.2
theorem fit_list {b n : Nat} {xs : List PyData} (f : Fits b n xs) : Fit (b + 3) (n + 1) (.list xs) := by
  refine ⟨?_, ?_, ?_⟩
  · rw [PyData.showable]; exact f.1
  · rw [PyData.shown]
    have := lisT_len (PyData.shownAll xs)
    have := f.2.1
    omega
  · rw [PyData.depth]
    exact Nat.succ_le_succ f.2.2
theorem fit_int {i : Int} {n : Nat} (h : i.natAbs < 10 ^ 51) : Fit 52 n (.int i) := by
  refine ⟨?_, ?_, ?_⟩
  · rw [PyData.showable]
    refine decide_eq_true ?_
    by_cases z : i.natAbs = 0
    · rw [z]; decide
    · rw [Nat.log2_lt z]
      refine Nat.lt_trans h ?_
      exact Nat.lt_of_lt_of_le (show 10 ^ 51 < 2 ^ 170 by decide) (Nat.pow_le_pow_right (by decide) (by decide))
  · rw [PyData.shown, ofString_length]
    exact int_text_length_le10 (by decide) h
  · rw [PyData.depth]; exact Nat.zero_le _
theorem fit_str {w : Str} {n : Nat} (h : (reprText w).length ≤ 8) : Fit 8 n (.str w) := by
  refine ⟨by rw [PyData.showable], by rw [PyData.shown]; exact h, by rw [PyData.depth]; exact Nat.zero_le _⟩
theorem Fit.ok {b n : Nat} {d : PyData} (f : Fit b n d) (h : b ≤ SZ) (g : n ≤ 150) : showOk d = true := by
  unfold showOk
  rw [f.1, decide_eq_true (Nat.le_trans f.2.1 h), decide_eq_true (Nat.le_trans f.2.2 g)]
  rfl
end Tx
namespace Tx
open PySem Mi
theorem op_len {op : Str} (h : op ∈ ops) : (reprText op).length ≤ 8 := by
  have : ∀ o ∈ ops, (reprText o).length ≤ 8 := by decide +kernel
  exact this op h
theorem jn_pos : ∀ e : Ex, 1 ≤ jn e := fun e => by cases e <;> rw [jn] <;> omega
theorem w_len {w : Str} (h : w ∈ [("load" : Str), "apply", "each", "fold", "seq", "par", "copies", "repeat"]) : (reprText w).length ≤ 8 := by
  have : ∀ o ∈ [("load" : Str), "apply", "each", "fold", "seq", "par", "copies", "repeat"], (reprText o).length ≤ 8 := by decide +kernel
  exact this w h
theorem c51 : (10 ^ 51 : Nat) = 1000000000000000000000000000000000000000000000000000 := by decide +kernel
theorem s_abs {s : Int} (h : 0 ≤ s ∧ s ≤ mxS) : s.natAbs < 10 ^ 51 := by
  have := h.2
  rw [mxS_eq] at this
  rw [c51]
  omega
theorem c_abs {s : Int} (h : 1 ≤ s ∧ s ≤ mxI) : s.natAbs < 10 ^ 51 := by
  have := h.2
  rw [mx] at this
  rw [c51]
  omega
mutual
theorem fitX : ∀ e : Ex, WF e → Fit (300 * jn e - 2) (2 * lv e) (enX e)
  | .load v s, w => by
    rw [WF] at w
    rw [enX, jn, lv]
    exact (fit_tup (fits_cons (fit_str (w_len (by decide +kernel))) (fits_cons (fit_int (by rw [c51]; omega)) (fits_cons (fit_int (s_abs w.2)) (fits_nil (b := 0) (n := 0)))))).mono (by decide) (by decide)
  | .app op ps s, w => by
    rw [WF] at w
    rw [enX, jn, lv]
    have q := fitXs ps w.2.2.1
    exact (fit_tup (fits_cons (fit_str (w_len (by decide +kernel))) (fits_cons (fit_str (op_len w.1)) (fits_cons (fit_tup q) (fits_cons (fit_int (s_abs w.2.2.2)) (fits_nil (b := 0))))))).mono (by omega) (by omega)
  | .each op c e s, w => by
    rw [WF] at w
    rw [enX, jn, lv]
    have q := fitX e w.2.2.1
    exact (fit_tup (fits_cons (fit_str (w_len (by decide +kernel))) (fits_cons (fit_str (op_len w.1)) (fits_cons (fit_int (c_abs w.2.1)) (fits_cons q (fits_cons (fit_int (s_abs w.2.2.2)) (fits_nil (b := 0)))))))).mono (by omega) (by omega)
  | .fold op c e s, w => by
    rw [WF] at w
    rw [enX, jn, lv]
    have q := fitX e w.2.2.1
    exact (fit_tup (fits_cons (fit_str (w_len (by decide +kernel))) (fits_cons (fit_str (op_len w.1)) (fits_cons (fit_int (c_abs w.2.1)) (fits_cons q (fits_cons (fit_int (s_abs w.2.2.2)) (fits_nil (b := 0)))))))).mono (by omega) (by omega)
theorem fitXs : ∀ ps : List Ex, WFs ps → Fits (300 * jns ps) (2 * lvs ps) (enXs ps)
  | [], _ => by rw [enXs]; exact fits_nil
  | p :: ps, w => by
    rw [WFs] at w
    rw [enXs, jns, lvs]
    have := jn_pos p
    exact (fits_cons ((fitX p w.1).mono (n' := 2 * max (lv p) (lvs ps)) (Nat.le_refl _) (by omega)) ((fitXs ps w.2).mono (n' := 2 * max (lv p) (lvs ps)) (Nat.le_refl _) (by omega))).mono (b' := 300 * (jn p + jns ps)) (n' := 2 * max (lv p) (lvs ps)) (by omega) (by omega)
end
theorem szs_b : ∀ ps : List Ex, WFs ps → 0 ≤ szs ps ∧ szs ps ≤ ps.length * 1000000000000
  | [], _ => by rw [szs]; decide
  | p :: ps, w => by
    rw [WFs] at w
    have a := szs_b ps w.2
    have b := wf_sz w.1
    rw [mxS_eq] at b
    rw [szs, List.length_cons]
    omega
theorem neg_abs {x : Int} (h0 : 0 ≤ x) (h : x < 1000000000000000000000000000000000000000000000000000) : (0 - x).natAbs < 10 ^ 51 := by
  rw [c51]; omega
theorem cs_b {c s : Int} (hc : 1 ≤ c ∧ c ≤ mxI) (hs : 0 ≤ s ∧ s ≤ mxS) : 0 ≤ c * s ∧ c * s < 1000000000000000000000000000000000000000000000000000 := by
  refine ⟨Int.mul_nonneg (by omega) hs.1, ?_⟩
  have a : c * s ≤ mxI * mxS := Int.mul_le_mul hc.2 hs.2 hs.1 (by decide)
  exact Int.lt_of_le_of_lt a (by decide)
mutual
theorem fitJ : ∀ e : Ex, WF e → Fit (300 * jn e - 2) (5 * lv e) (job e)
  | .load v s, w => by
    rw [WF] at w
    rw [job, jn, lv]
    exact (fit_int (s_abs w.2) (n := 0)).mono (by decide) (by decide)
  | .app op ps s, w => by
    rw [WF] at w
    rw [job, jn, lv]
    have q := fitJs ps w.2.2.1
    have b := szs_b ps w.2.2.1
    have l := w.2.1
    exact (fit_tup (fits_cons (fit_str (w_len (by decide +kernel))) (fits_cons (fit_tup (fits_cons (fit_tup (fits_cons (fit_str (w_len (by decide +kernel))) (fits_cons (fit_tup q) (fits_nil (b := 0))))) (fits_cons (fit_int (s_abs w.2.2.2)) (fits_cons (fit_int (neg_abs b.1 (by omega))) (fits_nil (b := 0)))))) (fits_nil (b := 0))))).mono (by omega) (by omega)
  | .each op c e s, w => by
    rw [WF] at w
    rw [job, jn, lv]
    have q := fitJ e w.2.2.1
    have b := cs_b w.2.1 (wf_sz w.2.2.1)
    exact (fit_tup (fits_cons (fit_str (w_len (by decide +kernel))) (fits_cons (fit_tup (fits_cons (fit_tup (fits_cons (fit_str (w_len (by decide +kernel))) (fits_cons (fit_int (c_abs w.2.1)) (fits_cons q (fits_nil (b := 0)))))) (fits_cons (fit_int (s_abs w.2.2.2)) (fits_cons (fit_int (neg_abs b.1 b.2)) (fits_nil (b := 0)))))) (fits_nil (b := 0))))).mono (by omega) (by omega)
  | .fold op c e s, w => by
    rw [WF] at w
    rw [job, jn, lv]
    have q := fitJ e w.2.2.1
    have b := wf_sz w.2.2.1
    have b2 := b.2
    rw [mxS_eq] at b2
    exact (fit_tup (fits_cons (fit_str (w_len (by decide +kernel))) (fits_cons (fit_tup (fits_cons (fit_int (s_abs w.2.2.2)) (fits_cons (fit_tup (fits_cons (fit_str (w_len (by decide +kernel))) (fits_cons (fit_int (c_abs w.2.1)) (fits_cons (fit_tup (fits_cons (fit_str (w_len (by decide +kernel))) (fits_cons (fit_tup (fits_cons q (fits_cons (fit_int (neg_abs b.1 (by omega))) (fits_nil (b := 0))))) (fits_nil (b := 0))))) (fits_nil (b := 0)))))) (fits_nil (b := 0))))) (fits_nil (b := 0))))).mono (by omega) (by omega)
theorem fitJs : ∀ ps : List Ex, WFs ps → Fits (300 * jns ps) (5 * lvs ps) (jobs ps)
  | [], _ => by rw [jobs]; exact fits_nil
  | p :: ps, w => by
    rw [WFs] at w
    rw [jobs, jns, lvs]
    have := jn_pos p
    exact (fits_cons ((fitJ p w.1).mono (n' := 5 * max (lv p) (lvs ps)) (Nat.le_refl _) (by omega)) ((fitJs ps w.2).mono (n' := 5 * max (lv p) (lvs ps)) (Nat.le_refl _) (by omega))).mono (b' := 300 * (jn p + jns ps)) (n' := 5 * max (lv p) (lvs ps)) (by omega) (by omega)
end
end Tx
namespace Tx
open PySem Mi
theorem φ41 : ΦT ds 41 = some f41 := rfl
section
variable {h : Sh}
theorem xs_nil {C : Nat → List Vl → Sh → R Vl} {G : Nat → Option PyData} {env : En} : evXs C G [] env h = .ok [] h := by rw [evXs]
theorem xs_e {C : Nat → List Vl → Sh → R Vl} {G : Nat → Option PyData} {env : En} {e : Te} {r : List Tm} {x : Vl} {xs : List Sl} (q : evE C G e env h = .ok x h) (q2 : evXs C G r env h = .ok xs h) : evXs C G (.e e :: r) env h = .ok (.v x :: xs) h := by
  rw [evXs, q]
  show (evXs C G r env h).bind _ = _
  rw [q2]
  rfl
def due (e : Ex) : PyData := .list [.int (val e), .int (sz e), job e]
theorem due_ok {e : Ex} (w : WF e) (l : lv e ≤ 13) (m : (meas 13 (job e)).isSome = true) : showOk (due e) = true := by
  have j := jn_400 m
  have v := rg_val e w
  have f := fit_list (fits_cons (fit_int (i := val e) (by rw [c51]; have := v.1; have := v.2; omega)) (fits_cons (fit_int (s_abs (wf_sz w))) (fits_cons (fitJ e w) (fits_nil (b := 0)))))
  exact f.ok (by unfold SZ; omega) (by omega)
theorem enX_show {e : Ex} (w : WF e) (l : lv e ≤ 13) (m : (meas 13 (job e)).isSome = true) : showOk (enX e) = true := by
  have j := jn_400 m
  exact (fitX e w).ok (by unfold SZ; omega) (by omega)
theorem repr_some {x : PyData} (o : showOk x = true) : biD .repr [x] = some (.str x.shown) := by
  show (if showOk x then some (PyData.str x.shown) else none) = _
  rw [if_pos o]
def body41 : List Ts := [.iff (.cmp .NotEq (.bi .repr [.ofL (.comp (.call 40 [.var 4, .var 0]) (.n 4) .range1 [.cst (.int 3)] [])]) (.bi .repr [.var 3])) [.ret (.cst (.bool false))] []]
theorem p41 {k : Nat} {d : PyData} {e : Ex} (he : exOf d = some e) : Cl (k + 50) 41 [.d d] h = .ok (.d (.bool true)) h := by
  obtain ⟨w, l, ed, m, _⟩ := exOf_ok he
  have o1 : showOk d = true := by rw [← ed]; exact enX_show w l m
  have o2 := due_ok w l m
  rw [Cl, call_at φ41 rfl]
  have q38 := p38 (h := h) e (k + 48 - lv e) w
  have q36 := p36 (h := h) e (k + 49 - lv e) w
  rw [show k + 48 - lv e + lv e + 1 = k + 49 by omega, ed] at q38
  rw [show k + 49 - lv e + lv e = k + 49 by omega, ed] at q36
  have q29 := p29 (h := h) (k := k + 1) (d := d)
  have q28 := p28 (h := h) (k := k + 1) (d := d)
  rw [he] at q29 q28
  have q11 := p11 (h := h) (k := k + 7) w l m
  have le : ixD d (-1) = some (.int (sz e)) := by rw [← ed]; exact last_enX e
  have s0 : evXs (Cf84 (k + 49)) (GT gs) [.e (.bi .repr [.var 0]), .e (.ofL (.disp [.call 38 [.var 0], .ix (.var 0) (.neg (.cst (.int 1))), .call 36 [.var 0]]))] [.v (.d d), .no, .no, .no, .no] h = .ok [.v (.d (.str d.shown)), .v (.d (due e))] h :=
    xs_e (e_bi (es_cons rfl es_nil) rfl (repr_some o1)) (xs_e (e_disp (es_cons ((e_call rfl).trans q38) (es_cons (e_neg1 rfl le) (es_cons ((e_call rfl).trans q36) es_nil))) rfl (Nat.le_of_ble_eq_true rfl)) xs_nil)
  have turn : ∀ s1 s4, evSs (Cf84 (k + 49)) (GT gs) 1000 body41 [.v (.d d), s1, .v (.d (.str d.shown)), .v (.d (due e)), s4] h = .ok (.nx [.v (.d d), s1, .v (.d (.str d.shown)), .v (.d (due e)), s4]) h := fun s1 s4 => by
    have cz := comp_map (C := Cf84 (k + 49)) (G := GT gs) (tg := .n 4) (elt := E84 (k + 49) (.call 40 [.var 4, .var 0])) (env := [.v (.d d), s1, .v (.d (.str d.shown)), .v (.d (due e)), .no]) (f := fun x => ask d (intOf x).toNat) [.int 0, .int 1, .int 2] (h := h) fun x mm => by
      have : ∃ n : Nat, x = .int n := by
        simp only [List.mem_cons, List.not_mem_nil, or_false] at mm
        rcases mm with rfl | rfl | rfl
        · exact ⟨0, rfl⟩
        · exact ⟨1, rfl⟩
        · exact ⟨2, rfl⟩
      obtain ⟨n, rfl⟩ := this
      exact ⟨_, rfl, (e_call rfl).trans (p40 (h := h) (k := k) (d := d) (n := n))⟩
    have ea : ([PyData.int 0, .int 1, .int 2].map fun x => ask d (intOf x).toNat) = [.int (val e), .int (sz e), job e] := by
      unfold ask
      rw [he]
      rfl
    rw [ea] at cz
    have r1 : E84 (k + 49) (.bi .repr [.ofL (.comp (.call 40 [.var 4, .var 0]) (.n 4) .range1 [.cst (.int 3)] [])]) [.v (.d d), s1, .v (.d (.str d.shown)), .v (.d (due e)), s4] h = .ok (.d (.str (due e).shown)) h :=
      e_bi (es_cons (e_comp (ds := [.int 0, .int 1, .int 2]) rfl rfl (by decide) cz) es_nil) rfl (repr_some o2)
    have r2 : E84 (k + 49) (.bi .repr [.var 3]) [.v (.d d), s1, .v (.d (.str d.shown)), .v (.d (due e)), s4] h = .ok (.d (.str (due e).shown)) h :=
      e_bi (es_cons rfl es_nil) rfl (repr_some o2)
    exact (s_ifF (t_cmp r1 r2 (cmp_ne.trans (by rw [eq_str, decide_eq_true rfl]; rfl)))).trans (by rw [evSs])
  have loop : forLoop (evSs (Cf84 (k + 49)) (GT gs) 1000 body41) (.n 1) [.d (.int 0), .d (.int 1)] [.v (.d d), .no, .v (.d (.str d.shown)), .v (.d (due e)), .no] h = .ok (.nx [.v (.d d), .v (.d (.int 1)), .v (.d (.str d.shown)), .v (.d (due e)), .no]) h := by
    refine (fl_cons (env' := [.v (.d d), .v (.d (.int 0)), .v (.d (.str d.shown)), .v (.d (due e)), .no]) rfl).trans ?_
    rw [turn]
    show forLoop (evSs (Cf84 (k + 49)) (GT gs) 1000 body41) (.n 1) [.d (.int 1)] [.v (.d d), .v (.d (.int 0)), .v (.d (.str d.shown)), .v (.d (due e)), .no] h = _
    refine (fl_cons (env' := [.v (.d d), .v (.d (.int 1)), .v (.d (.str d.shown)), .v (.d (due e)), .no]) rfl).trans ?_
    rw [turn]
    rfl
  refine fin_end ((s_par s0 rfl).trans ((s_for rfl rfl loop).trans (s_ret ?_)))
  refine (e_andB (v := true) (w := true) (e_cmp (e_bi (es_cons rfl es_nil) rfl (repr_some o1)) rfl (cmp_eq.trans (by rw [eq_str, decide_eq_true rfl]))) fun _ => ?_)
  rw [e_and1]
  exact e_cmp ((e_call (es_cons ((e_call rfl).trans q29) es_nil)).trans q11) ((e_call rfl).trans q28) (cmp_eq.trans (by rw [eq_int, decide_eq_true rfl]))
end
end Tx
namespace Tx
open PySem Mi
theorem φ30 : ΦT ds 30 = some f30 := rfl
theorem φ31 : ΦT ds 31 = some f31 := rfl
theorem φ32 : ΦT ds 32 = some f32 := rfl
theorem φ33 : ΦT ds 33 = some f33 := rfl
theorem φ34 : ΦT ds 34 = some f34 := rfl
theorem φ35 : ΦT ds 35 = some f35 := rfl
theorem φ39 : ΦT ds 39 = some f39 := rfl
theorem φ43 : ΦT ds 43 = some f43 := rfl
/-- the numbers of a case -/
structure S3 where
  a : Int
  b : Int
  c : Int
def ob (s : S3) : Ob := .lst [.int s.a, .int s.b, .int s.c]
def Bd (N : Nat) (s : S3) : Prop := (0 ≤ s.a ∧ s.a < 10 ^ 800) ∧ (0 ≤ s.b ∧ s.b < 100000000000000000) ∧ (0 ≤ s.c ∧ s.c ≤ N)
def one (s : S3) : Int := (s.b + 11400714819323198 * (s.c + 1)) % 18014398509481951
def two (s : S3) : Int := (one s * one s % 36028797018963913 * one s + 2654435761 * (s.c + 1) + s.b % 65521) % 1125899906842597
def dv (s : S3) (m : Int) : Int := if 0 < s.a then s.a % m else two s * two s % 562949953421231 / 512 % m
def dn (s : S3) (m : Int) : S3 := if 0 < s.a then ⟨s.a / m, s.b, s.c⟩ else ⟨s.a, s.b, s.c + 1⟩
theorem dv_rg {s : S3} {m : Int} (hm : 1 ≤ m) : 0 ≤ dv s m ∧ dv s m < m := by
  unfold dv
  split
  · exact ⟨Int.emod_nonneg _ (by omega), Int.emod_lt_of_pos _ (by omega)⟩
  · exact ⟨Int.emod_nonneg _ (by omega), Int.emod_lt_of_pos _ (by omega)⟩
theorem dn_bd {N : Nat} {s : S3} {m : Int} (hm : 1 ≤ m) (b : Bd N s) : Bd (N + 1) (dn s m) := by
  unfold dn
  obtain ⟨⟨a0, a1⟩, b1, c0, c1⟩ := b
  split
  · refine ⟨⟨Int.ediv_nonneg a0 (by omega), Int.lt_of_le_of_lt (Int.ediv_le_self _ a0) a1⟩, b1, c0, ?_⟩
    show s.c ≤ ((N + 1 : Nat) : Int)
    omega
  · refine ⟨⟨a0, a1⟩, b1, ?_, ?_⟩
    · show 0 ≤ s.c + 1
      omega
    · show s.c + 1 ≤ ((N + 1 : Nat) : Int)
      omega
section
variable {C : Nat → List Vl → Sh → R Vl} {G : Nat → Option PyData} {W : Nat} {env : En} {h : Sh}
theorem e_ixR {a i : Te} {n : Nat} {xs : List PyData} {z : PyData} {j : Int} (e1 : evE C G a env h = .ok (.ref n) h) (e2 : evE C G i env h = .ok (.d (.int j)) h) (hn : h[n]? = some (.lst xs)) (e : L2.atI xs j = some z) : evE C G (.ix a i) env h = .ok (.d z) h := by
  rw [evE, e1, b_ok, e2, b_ok, ixV, hn]
  simp only [e]
  rfl
theorem s_setix {r i e : Te} {rest : List Ts} {n : Nat} {xs : List PyData} {v : PyData} {j : Int} {k : Nat} (q : evE C G e env h = .ok (.d v) h) (e1 : evE C G r env h = .ok (.ref n) h) (e2 : evE C G i env h = .ok (.d (.int j)) h) (hn : h[n]? = some (.lst xs)) (hk : L2.ixN xs.length j = some k) :
    evSs C G W (.setix r i e :: rest) env h = evSs C G W rest env (h.set n (.lst (xs.set k v))) := by
  rw [evSs, evS, q, b_ok, e1, b_ok, e2, b_ok]
  simp only [hn, hk]
  rfl
end
variable {hp : Sh}
theorem hp_at {s : S3} : (hp ++ [ob s])[hp.length]? = some (ob s) := by rw [List.getElem?_append_right (Nat.le_refl _), Nat.sub_self]; rfl
theorem hp_set {s : S3} {x : Ob} : (hp ++ [ob s]).set hp.length x = hp ++ [x] := by rw [List.set_append_right _ _ (Nat.le_refl _), Nat.sub_self]; rfl
theorem ok_lt {i : Int} (h0 : 0 ≤ i) (h : i < 10 ^ 800) : okI i = true := by
  unfold okI LIM
  refine decide_eq_true ?_
  have h2 : i.natAbs < 10 ^ 800 := by
    have : ((i.natAbs : Nat) : Int) < ((10 ^ 800 : Nat) : Int) := by rw [Int.natAbs_of_nonneg h0]; exact h
    exact Int.ofNat_lt.mp this
  exact Nat.lt_trans h2 (Nat.pow_lt_pow_right (by decide) (by decide))
theorem ok_b {i : Int} (h0 : 0 ≤ i) (h : i ≤ 100000000000000000000) : okI i = true := ok_lt h0 (Int.lt_of_le_of_lt h (by decide +kernel))
theorem mulB {a b : Int} (ha : 0 ≤ a ∧ a ≤ 100000000000000000000) (hb : 0 ≤ b ∧ b ≤ 100000000000000000000) : binD .Mult (.int a) (.int b) = some (.int (a * b)) := by
  show (if okI a && okI b then some (PyData.int (a * b)) else none) = _
  rw [ok_b ha.1 ha.2, ok_b hb.1 hb.2]
  rfl
theorem modB {a m : Int} (hm : 0 < m) : binD .Mod (.int a) (.int m) = some (.int (a % m)) := by
  show (if 0 < m then some (PyData.int (a % m)) else none) = _
  rw [if_pos hm]
theorem divB {a m : Int} (hm : 0 < m) (h : m ≤ 100000000000000000000) : binD .FloorDiv (.int a) (.int m) = some (.int (a / m)) := by
  show (if decide (0 < m) && okI m then some (PyData.int (a / m)) else none) = _
  rw [decide_eq_true hm, ok_b (by omega) h]
  rfl
theorem emod_rg {a : Int} (m : Int) (hm : 0 < m) (h : m ≤ 100000000000000000000) : 0 ≤ a % m ∧ a % m ≤ 100000000000000000000 := by
  have := Int.emod_nonneg a (show m ≠ 0 by omega)
  have := Int.emod_lt_of_pos a hm
  omega
theorem p31 {k N : Nat} {s : S3} {m : Int} (b : Bd N s) (hN : N ≤ 1000000) (hm : 1 ≤ m ∧ m ≤ 1000000000) : Cl (k + 1) 31 [.ref hp.length, .d (.int m)] (hp ++ [ob s]) = .ok (.d (.int (dv s m))) (hp ++ [ob (dn s m)]) := by
  obtain ⟨⟨a0, a1⟩, ⟨b0, b1⟩, c0, c1⟩ := b
  rw [Cl, call_at φ31 rfl]
  refine fin_end ?_
  have at0 : ∀ (t : S3) env, env[0]? = some (.v (.ref hp.length)) → E84 k (.ix (.var 0) (.cst (.int 0))) env (hp ++ [ob t]) = .ok (.d (.int t.a)) (hp ++ [ob t]) := fun t env e => e_ixR (by rw [evE, e]) rfl hp_at at_0
  have at1 : ∀ (t : S3) env, env[0]? = some (.v (.ref hp.length)) → E84 k (.ix (.var 0) (.cst (.int 1))) env (hp ++ [ob t]) = .ok (.d (.int t.b)) (hp ++ [ob t]) := fun t env e => e_ixR (by rw [evE, e]) rfl hp_at at_1
  have at2 : ∀ (t : S3) env, env[0]? = some (.v (.ref hp.length)) → E84 k (.ix (.var 0) (.cst (.int 2))) env (hp ++ [ob t]) = .ok (.d (.int t.c)) (hp ++ [ob t]) := fun t env e => e_ixR (by rw [evE, e]) rfl hp_at at_2
  have t0 : tru (E84 k (.cmp .Gt (.ix (.var 0) (.cst (.int 0))) (.cst (.int 0))) [.v (.ref hp.length), .v (.d (.int m)), .no, .no, .no] (hp ++ [ob s])) = .ok (decide (0 < s.a)) (hp ++ [ob s]) := t_cmp (at0 s _ rfl) rfl rfl
  unfold dv dn
  by_cases c : 0 < s.a
  · rw [if_pos c, if_pos c]
    refine s_ifT (t0.trans (by rw [decide_eq_true c])) ?_
    refine (s_asg (e_bin (at0 s _ rfl) rfl (modB (by omega))) rfl).trans ?_
    refine (s_setix (e_bin (at0 s _ rfl) rfl (divB (by omega) (by omega))) rfl rfl hp_at (k := 0) rfl).trans ?_
    rw [hp_set]
    exact s_ret rfl
  · rw [if_neg c, if_neg c]
    refine (s_ifF (t0.trans (by rw [decide_eq_false c]))).trans ?_
    refine (s_setix (e_bin (at2 s _ rfl) rfl rfl) rfl rfl hp_at (k := 2) rfl).trans ?_
    rw [hp_set]
    have r1 := emod_rg (a := s.b + 11400714819323198 * (s.c + 1)) 18014398509481951 (by decide) (by decide)
    have r2 := emod_rg (a := one s * one s) 36028797018963913 (by decide) (by decide)
    have r3 := emod_rg (a := one s * one s % 36028797018963913 * one s + 2654435761 * (s.c + 1) + s.b % 65521) 1125899906842597 (by decide) (by decide)
    have g1 : ∀ env, env[0]? = some (.v (.ref hp.length)) → E84 k (.bin .Mod (.bin .Add (.ix (.var 0) (.cst (.int 1))) (.bin .Mult (.cst (.int 11400714819323198)) (.ix (.var 0) (.cst (.int 2))))) (.cst (.int 18014398509481951))) env (hp ++ [ob ⟨s.a, s.b, s.c + 1⟩]) = .ok (.d (.int (one s))) (hp ++ [ob ⟨s.a, s.b, s.c + 1⟩]) := fun env e => e_bin (e_bin (at1 ⟨s.a, s.b, s.c + 1⟩ _ e) (e_bin rfl (at2 ⟨s.a, s.b, s.c + 1⟩ _ e) (mulB (by decide) ⟨by show 0 ≤ s.c + 1; omega, by show s.c + 1 ≤ _; omega⟩)) rfl) rfl rfl
    refine (s_asg (g1 _ rfl) rfl).trans ?_
    refine (s_asg (e_bin (e_bin (e_bin rfl rfl (mulB r1 r1)) rfl rfl) rfl (mulB r2 r1)) rfl).trans ?_
    refine (s_asg (e_bin (e_bin (e_bin rfl (e_bin rfl (at2 ⟨s.a, s.b, s.c + 1⟩ _ rfl) (mulB (by decide) ⟨by show 0 ≤ s.c + 1; omega, by show s.c + 1 ≤ _; omega⟩)) rfl) (e_bin (at1 ⟨s.a, s.b, s.c + 1⟩ _ rfl) rfl rfl) rfl) rfl rfl) rfl).trans ?_
    exact s_ret (e_bin (e_bin (e_bin (e_bin rfl rfl (mulB r3 r3)) rfl rfl) rfl (divB (by decide) (by decide))) rfl (modB (by omega)))
end Tx
namespace Tx
open PySem Mi
theorem powB {i j : Int} (h : 0 ≤ j ∧ j ≤ 100) (o : okI i = true) : binD .Pow (.int i) (.int j) = some (.int (i ^ j.toNat)) := by
  show (if decide (0 ≤ j ∧ j ≤ 100) && okI i then some (PyData.int (i ^ j.toNat)) else none) = _
  rw [decide_eq_true h, o]
  rfl
variable {hp : Sh}
theorem fl_next {body : En → Sh → R Out} {tg : Tg} {x : Vl} {xs : List Vl} {env env' e1 : En} {h h1 : Sh} {r : R Out} (e : bindTg tg x env = some env') (q : body env' h = .ok (.nx e1) h1) (q2 : forLoop body tg xs e1 h1 = r) : forLoop body tg (x :: xs) env h = r := by
  rw [fl_cons e, q, b_ok]
  exact q2
theorem fl_nil {body : En → Sh → R Out} {tg : Tg} {env : En} {h : Sh} : forLoop body tg [] env h = .ok (.nx env) h := by rw [forLoop]
def body32 : List Ts := [.asg (.n 2) (.bin .Add (.bin .Mult (.var 2) (.bin .Pow (.cst (.int 10)) (.cst (.int 9)))) (.call 31 [.var 0, .bin .Pow (.cst (.int 10)) (.cst (.int 9))]))]
theorem nine : (10 : Int) ^ (9 : Int).toNat = 1000000000 := by decide
theorem ev9 {K : Nat} {env : En} {h : Sh} : E84 K (.bin .Pow (.cst (.int 10)) (.cst (.int 9))) env h = .ok (.d (.int 1000000000)) h := e_bin rfl rfl ((powB (by decide) (ok_b (by decide) (by decide))).trans (by rw [nine]))
theorem turn32 {k N : Nat} {s : S3} {m f : Int} {s3 : Sl} (b : Bd N s) (hN : N ≤ 1000000) (hf : 0 ≤ f ∧ f < 10 ^ 800) :
    evSs (Cf84 (k + 1)) (GT gs) 1000 body32 [.v (.ref hp.length), .v (.d (.int m)), .v (.d (.int f)), s3] (hp ++ [ob s]) = .ok (.nx [.v (.ref hp.length), .v (.d (.int m)), .v (.d (.int (f * 1000000000 + dv s 1000000000))), s3]) (hp ++ [ob (dn s 1000000000)]) := by
  have mu : binD .Mult (.int f) (.int 1000000000) = some (.int (f * 1000000000)) := by
    show (if okI f && okI 1000000000 then some (PyData.int (f * 1000000000)) else none) = _
    rw [ok_lt hf.1 hf.2, ok_b (by decide) (by decide)]
    rfl
  refine (s_asg (e_bin (e_bin rfl ev9 mu) ((e_call (es_cons rfl (es_cons ev9 es_nil))).trans (p31 (k := k) b hN ⟨by decide, by decide⟩)) rfl) rfl).trans ?_
  rw [evSs]
  rfl
theorem p32 {k N : Nat} {s : S3} {m : Int} (b : Bd N s) (hN : N ≤ 900000) (hm : 1 ≤ m) : ∃ s' v, Cl (k + 2) 32 [.ref hp.length, .d (.int m)] (hp ++ [ob s]) = .ok (.d (.int v)) (hp ++ [ob s']) ∧ (0 ≤ v ∧ v < m) ∧ Bd (N + 4) s' := by
  have d0 := dv_rg (s := s) (m := 1000000000) (by decide)
  have b1 := dn_bd (m := 1000000000) (by decide) b
  have d1 := dv_rg (s := dn s 1000000000) (m := 1000000000) (by decide)
  have b2 := dn_bd (m := 1000000000) (by decide) b1
  have d2 := dv_rg (s := dn (dn s 1000000000) 1000000000) (m := 1000000000) (by decide)
  have b3 := dn_bd (m := 1000000000) (by decide) b2
  have d3 := dv_rg (s := dn (dn (dn s 1000000000) 1000000000) 1000000000) (m := 1000000000) (by decide)
  have b4 := dn_bd (m := 1000000000) (by decide) b3
  have big : (1000000000000000000000000000000000000000000000000000 : Int) < 10 ^ 800 := by decide +kernel
  have z : ∀ f : Int, 0 ≤ f → f < 1000000000000000000000000000000000000000000000000000 → 0 ≤ f ∧ f < 10 ^ 800 := fun f h0 h1 => ⟨h0, Int.lt_trans h1 big⟩
  have t0 := fun s3 => turn32 (hp := hp) (k := k) (m := m) (s3 := s3) (f := 0) b (by omega) (z _ (by decide) (by decide))
  have t1 := fun s3 => turn32 (hp := hp) (k := k) (m := m) (s3 := s3) (f := 0 * 1000000000 + dv s 1000000000) b1 (by omega) (z _ (by omega) (by omega))
  have t2 := fun s3 => turn32 (hp := hp) (k := k) (m := m) (s3 := s3) (f := (0 * 1000000000 + dv s 1000000000) * 1000000000 + dv (dn s 1000000000) 1000000000) b2 (by omega) (z _ (by omega) (by omega))
  have t3 := fun s3 => turn32 (hp := hp) (k := k) (m := m) (s3 := s3) (f := ((0 * 1000000000 + dv s 1000000000) * 1000000000 + dv (dn s 1000000000) 1000000000) * 1000000000 + dv (dn (dn s 1000000000) 1000000000) 1000000000) b3 (by omega) (z _ (by omega) (by omega))
  refine ⟨dn (dn (dn (dn s 1000000000) 1000000000) 1000000000) 1000000000, ((((0 * 1000000000 + dv s 1000000000) * 1000000000 + dv (dn s 1000000000) 1000000000) * 1000000000 + dv (dn (dn s 1000000000) 1000000000) 1000000000) * 1000000000 + dv (dn (dn (dn s 1000000000) 1000000000) 1000000000) 1000000000) % m, ?_, ⟨Int.emod_nonneg _ (show m ≠ 0 by omega), Int.emod_lt_of_pos _ (by omega)⟩, b4⟩
  rw [Cl, call_at φ32 rfl]
  have loop := fl_next (tg := .n 3) (x := .d (.int 0)) (env := [.v (.ref hp.length), .v (.d (.int m)), .v (.d (.int 0)), .no]) rfl (t0 _) (fl_next (tg := .n 3) (x := .d (.int 1)) rfl (t1 _) (fl_next (tg := .n 3) (x := .d (.int 2)) rfl (t2 _) (fl_next (tg := .n 3) (x := .d (.int 3)) rfl (t3 _) fl_nil)))
  refine fin_end ((s_asg rfl rfl).trans ((s_for rfl rfl loop).trans (s_ret ?_)))
  exact e_bin rfl rfl (modB (by omega))
end Tx
namespace Tx
open PySem Mi
theorem e_newl {C : Nat → List Vl → Sh → R Vl} {G : Nat → Option PyData} {env : En} {h h1 : Sh} {l : Tl} {xs : List PyData} (q : evL C G l env h = .ok xs h1) : evE C G (.newl l) env h = .ok (.ref h1.length) (h1 ++ [.lst xs]) := by
  rw [evE, q]; rfl
variable {hp : Sh}
def MM : Int := (10 ^ 60) ^ 12
theorem MM_b : 0 < MM ∧ MM ≤ 10 ^ 720 := by
  unfold MM
  rw [← Int.pow_mul]
  exact ⟨Int.pow_pos (by decide), Int.le_refl _⟩
theorem eMM {K : Nat} {env : En} {h : Sh} : E84 K (.bin .Pow (.bin .Pow (.cst (.int 10)) (.cst (.int 60))) (.cst (.int 12))) env h = .ok (.d (.int MM)) h := by
  refine e_bin (e_bin rfl rfl (powB (by decide) (ok_b (by decide) (by decide)))) rfl (powB (by decide) (ok_lt ?_ ?_))
  · exact Int.le_of_lt (Int.pow_pos (by decide))
  · show (10 : Int) ^ 60 < 10 ^ 800
    decide +kernel
theorem p30 {k at' : Nat} {ns : List Int} (ha : at' < 1000) : ∃ s, Cl (k + 1) 30 [.scr ns, .d (.int at')] hp = .ok (.ref hp.length) (hp ++ [ob s]) ∧ Bd 0 s := by
  obtain ⟨cell, hc⟩ : ∃ cell : Int, E84 k (.ite (.cmp .Lt (.var 1) (.bi .len [.var 0])) (.ix (.var 0) (.var 1)) (.bin .Add (.bin .Mult (.cst (.int 3)) (.var 1)) (.cst (.int 2)))) [.v (.scr ns), .v (.d (.int at')), .no, .no, .no] hp = .ok (.d (.int cell)) hp := by
    have t : tru (E84 k (.cmp .Lt (.var 1) (.bi .len [.var 0])) [.v (.scr ns), .v (.d (.int at')), .no, .no, .no] hp) = .ok (decide ((at' : Int) < (ns.length : Int))) hp := t_cmp (y := .int ns.length) rfl rfl rfl
    by_cases c : at' < ns.length
    · refine ⟨ns[at'], (e_ite t).trans ?_⟩
      rw [if_pos (decide_eq_true (by omega))]
      have q : L2.atI ns (at' : Int) = some ns[at'] := at_k (List.getElem?_eq_getElem c)
      rw [evE, evE]
      show (lift (ixV hp (.scr ns) (.d (.int at'))) hp) = _
      rw [ixV, q]
      rfl
    · refine ⟨3 * at' + 2, (e_ite t).trans ?_⟩
      rw [if_neg (by rw [decide_eq_false (by omega)]; decide)]
      exact (e_bin (e_bin rfl rfl (mulB (by decide) ⟨by omega, by omega⟩)) rfl rfl)
  have m1 := MM_b
  let size : Int := (if cell < 0 then -cell else cell) % MM
  have s0 : 0 ≤ size := Int.emod_nonneg _ (by have := m1.1; omega)
  have s1 : size < MM := Int.emod_lt_of_pos _ m1.1
  have s2 : size < 10 ^ 800 := Int.lt_trans (Int.lt_of_lt_of_le s1 m1.2) (by decide +kernel)
  have mu : binD .Mult (.int size) (.int 2862933555777941757) = some (.int (size * 2862933555777941757)) := by
    show (if okI size && okI 2862933555777941757 then some (PyData.int (size * 2862933555777941757)) else none) = _
    rw [ok_lt s0 s2, ok_b (by decide) (by decide)]
    rfl
  have e18 : ∀ env h, E84 k (.bin .Pow (.cst (.int 10)) (.cst (.int 18))) env h = .ok (.d (.int 1000000000000000000)) h := fun env h => e_bin rfl rfl ((powB (by decide) (ok_b (by decide) (by decide))).trans (by rw [show (10 : Int) ^ (18 : Int).toNat = 1000000000000000000 by decide]))
  have ei : ∀ s3 s4, E84 k (.bi .int [.cmp .Lt (.var 2) (.cst (.int 0))]) [.v (.scr ns), .v (.d (.int at')), .v (.d (.int cell)), s3, s4] hp = .ok (.d (.int (if decide (cell < 0) then 1 else 0))) hp := fun s3 s4 => e_bi (es_cons (e_cmp rfl rfl rfl) es_nil) rfl rfl
  have ab : E84 k (.bi .abs [.var 2]) [.v (.scr ns), .v (.d (.int at')), .v (.d (.int cell)), .no, .no] hp = .ok (.d (.int (if cell < 0 then -cell else cell))) hp := e_bi (es_cons rfl es_nil) rfl rfl
  refine ⟨⟨if size - 1000000000000000000 > 0 then size - 1000000000000000000 else 0, (size * 2862933555777941757 + 3037000493 * at' + (if decide (cell < 0) then 1 else 0)) % 72057594037927931, 0⟩, ?_, ⟨?_, ?_⟩, ⟨?_, ?_⟩, ?_, ?_⟩
  · rw [Cl, call_at φ30 rfl]
    refine fin_end ((s_asg hc rfl).trans ((s_asg (e_bin ab eMM (modB m1.1)) rfl).trans ((s_asg (e_bin (e_bin (e_bin rfl rfl mu) (e_bin rfl rfl (mulB (by decide) ⟨by omega, by omega⟩)) rfl) (ei _ _) rfl) rfl).trans (s_ret ?_))))
    have d : evL (Cf84 k) (GT gs) (.disp [.bi .max [.cst (.int 0), .bin .Sub (.var 3) (.bin .Pow (.cst (.int 10)) (.cst (.int 18)))], .bin .Mod (.var 4) (.cst (.int 72057594037927931)), .cst (.int 0)]) [.v (.scr ns), .v (.d (.int at')), .v (.d (.int cell)), .v (.d (.int size)), .v (.d (.int (size * 2862933555777941757 + 3037000493 * at' + (if decide (cell < 0) then 1 else 0))))] hp = .ok [.int (if size - 1000000000000000000 > 0 then size - 1000000000000000000 else 0), .int ((size * 2862933555777941757 + 3037000493 * at' + (if decide (cell < 0) then 1 else 0)) % 72057594037927931), .int 0] hp := by
      have q := es_cons (e_bi (b := .max) (es_cons (e := .cst (.int 0)) rfl (es_cons (e_bin (op := .Sub) (a := .var 3) (x := .int size) (z := .int (size - 1000000000000000000)) rfl (e18 [.v (.scr ns), .v (.d (.int at')), .v (.d (.int cell)), .v (.d (.int size)), .v (.d (.int (size * 2862933555777941757 + 3037000493 * at' + (if decide (cell < 0) then 1 else 0))))] hp) rfl) es_nil)) rfl rfl) (es_cons (e := .bin .Mod (.var 4) (.cst (.int 72057594037927931))) (e_bin rfl rfl (modB (by decide))) (es_cons (e := .cst (.int 0)) rfl es_nil))
      rw [evL, q]
      rfl
    exact e_newl d
  · dsimp only
    split
    · omega
    · exact Int.le_refl _
  · dsimp only
    split
    · exact Int.lt_of_le_of_lt (Int.sub_le_self _ (by decide)) s2
    · exact Int.pow_pos (by decide)
  · exact Int.emod_nonneg _ (by decide)
  · exact Int.lt_of_lt_of_le (Int.emod_lt_of_pos _ (by decide)) (by decide)
  · exact Int.le_refl _
  · exact Int.le_refl _
end Tx
namespace Tx
open PySem Mi
variable {hp : Sh}
def some33 : List PyData := [.none, .bool true, .bool false, .int (-1), .int 0, .int 1, .int 5, .int 1000000000000000000000000000001, .int 1000000000000000000000000000000000000000000000000000000000000, .str "", .str "seq", .str "par", .str "a", .tuple [], .list [], .dict [], .tuple [.int 0], .tuple [.str "seq"]]
def odds : List PyData := some33 ++ [.tuple [.tuple []], .list [.str "seq", .tuple []], .tuple [.str "use", .str "a"]]
theorem p30e {K : Nat} {env : En} {h : Sh} : E84 K (.bin .Pow (.cst (.int 10)) (.cst (.int 30))) env h = .ok (.d (.int 1000000000000000000000000000000)) h := e_bin rfl rfl ((powB (by decide) (ok_b (by decide) (by decide))).trans (by rw [show (10 : Int) ^ (30 : Int).toNat = 1000000000000000000000000000000 by decide]))
theorem p60e {K : Nat} {env : En} {h : Sh} : E84 K (.bin .Pow (.cst (.int 10)) (.cst (.int 60))) env h = .ok (.d (.int 1000000000000000000000000000000000000000000000000000000000000)) h := e_bin rfl rfl ((powB (by decide) (ok_b (by decide) (by decide))).trans (by rw [show (10 : Int) ^ (60 : Int).toNat = 1000000000000000000000000000000000000000000000000000000000000 by decide]))
theorem at_lt {xs : List PyData} {v : Int} (h0 : 0 ≤ v) (h1 : v < xs.length) : ∃ x, L2.atI xs v = some x := by
  obtain ⟨n, rfl⟩ : ∃ n : Nat, v = n := ⟨v.toNat, by omega⟩
  exact ⟨xs[n]'(by omega), at_k (List.getElem?_eq_getElem (by omega))⟩
theorem p33 {k N : Nat} {s : S3} (b : Bd N s) (hN : N ≤ 900000) : ∃ x, Cl (k + 2) 33 [.ref hp.length] (hp ++ [ob s]) = .ok (.d x) (hp ++ [ob (dn s 21)]) := by
  obtain ⟨v0, v1⟩ := dv_rg (s := s) (m := 21) (by decide)
  obtain ⟨x, hx⟩ := at_lt (xs := odds) v0 (by show _ < ((21 : Nat) : Int); exact v1)
  refine ⟨x, ?_⟩
  rw [Cl, call_at φ33 rfl]
  have c := p31 (hp := hp) (k := k) (m := 21) b (by omega) (by decide)
  refine fin_end ((s_asg (v := .d (.list some33)) (e_disp (es_cons rfl (es_cons rfl (es_cons rfl (es_cons rfl (es_cons rfl (es_cons rfl (es_cons rfl (es_cons (e_bin p30e rfl rfl) (es_cons p60e rfl))))))))) rfl (Nat.le_of_ble_eq_true rfl)) rfl).trans (s_ret ?_))
  exact e_ix (x := .list odds) (e_bin rfl rfl rfl) ((e_call rfl).trans c) hx
end Tx
namespace Tx
open PySem Mi
variable {h : Sh}
def lone : PyData := .tuple [.str "load", .int 1, .int 1]
def deepB : Nat → PyData
  | 0 => lone
  | n + 1 => .tuple [.str "apply", .str "max", .tuple [deepB n], .int 0]
def wideB : PyData := .tuple [.str "apply", .str "add", .tuple (repL 60 [lone]), .int 0]
def beyond : List PyData := [deepB 7, .tuple [.str "apply", .str "add", .tuple (repL 7 [wideB]), .int 0], .tuple [.str "each", .str "add", .int 999999999999999999999999999999, lone, .int 0]]
theorem beyond_no : ∀ d ∈ beyond, exOf d = none := by
  have a : beyond.all (fun d => (exOf d).isNone) = true := by decide +kernel
  intro d m
  exact Option.isNone_iff_eq_none.mp (List.all_eq_true.mp a d m)
theorem mulT {n : Int} {x : PyData} (h : 2 ≤ n ∧ n ≤ 1000) : binD .Mult (.tuple [x]) (.int n) = some (.tuple (repL n.toNat [x])) := by
  show (if 2 ≤ n ∧ n ≤ 1000 ∧ [x].length ≤ 1000 ∧ [x].isEmpty = false then some (PyData.tuple (repL n.toNat [x])) else none) = _
  rw [if_pos ⟨h.1, h.2, by show 1 ≤ 1000; decide, rfl⟩]
def body39 : List Ts := [.asg (.n 3) (.tup [.cst (.str "apply"), .cst (.str "max"), .tup [.var 3], .cst (.int 0)])]
theorem turn39 {K n : Nat} {s0 s1 s2 : Sl} : evSs (Cf84 K) (GT gs) 1000 body39 [s0, s1, s2, .v (.d (deepB n))] h = .ok (.nx [s0, s1, s2, .v (.d (deepB (n + 1)))]) h := by
  refine (s_asg (e_tup (es_cons rfl (es_cons rfl (es_cons (e_tup (es_cons rfl es_nil) rfl (Nat.le_of_ble_eq_true rfl)) (es_cons rfl es_nil)))) rfl (Nat.le_of_ble_eq_true rfl)) rfl).trans ?_
  rw [evSs]
  rfl
theorem p39 {k : Nat} : Cl (k + 1) 39 [] h = .ok (.d (.list beyond)) h := by
  rw [Cl, call_at φ39 rfl]
  have loop := fl_next (h := h) (r := _) (tg := .n 0) (x := .d (.int 0)) (env := [.no, .no, .v (.d lone), .v (.d (deepB 0))]) rfl (turn39 (K := k)) (fl_next (tg := .n 0) (x := .d (.int 1)) rfl turn39 (fl_next (tg := .n 0) (x := .d (.int 2)) rfl turn39 (fl_next (tg := .n 0) (x := .d (.int 3)) rfl turn39 (fl_next (tg := .n 0) (x := .d (.int 4)) rfl turn39 (fl_next (tg := .n 0) (x := .d (.int 5)) rfl turn39 (fl_next (tg := .n 0) (x := .d (.int 6)) rfl turn39 fl_nil))))))
  refine fin_end ((s_asg rfl rfl).trans ((s_for rfl rfl loop).trans ?_))
  refine (s_asg (v := .d wideB) (e_tup (es_cons rfl (es_cons rfl (es_cons (e_bin (e_tup (es_cons rfl es_nil) rfl (Nat.le_of_ble_eq_true rfl)) rfl (mulT ⟨by decide, by decide⟩)) (es_cons rfl es_nil)))) rfl (Nat.le_of_ble_eq_true rfl)) rfl).trans (s_ret ?_)
  exact e_disp (es_cons rfl (es_cons (e_tup (es_cons rfl (es_cons rfl (es_cons (e_bin (e_tup (es_cons rfl es_nil) rfl (Nat.le_of_ble_eq_true rfl)) rfl (mulT ⟨by decide, by decide⟩)) (es_cons rfl es_nil)))) rfl (Nat.le_of_ble_eq_true rfl)) (es_cons (e_tup (es_cons rfl (es_cons rfl (es_cons (e_bin p30e rfl rfl) (es_cons rfl (es_cons rfl es_nil))))) rfl (Nat.le_of_ble_eq_true rfl)) es_nil))) rfl (Nat.le_of_ble_eq_true rfl)
end Tx
namespace Tx
open PySem Mi
variable {hp : Sh}
/-- data that bent may meet -/
inductive Okd : PyData → Prop
  | tup (xs : List PyData) : xs.length ≤ 400 → (∀ x ∈ xs, Okd x) → Okd (.tuple xs)
  | int (i : Int) : i.natAbs < 10 ^ 51 → Okd (.int i)
  | str (w : Str) : Okd (.str w)
theorem okd_cons {x : PyData} {xs : List PyData} (h : Okd x) (g : ∀ y ∈ xs, Okd y) : ∀ y ∈ x :: xs, Okd y := fun y m => by
  rcases List.mem_cons.mp m with rfl | m
  · exact h
  · exact g y m
theorem okd_nil : ∀ y ∈ ([] : List PyData), Okd y := fun _ m => (List.not_mem_nil m).elim
mutual
theorem okdX : ∀ e : Ex, WF e → Okd (enX e)
  | .load v s, w => by
    rw [WF] at w
    rw [enX]
    exact .tup _ (Nat.le_of_ble_eq_true rfl) (okd_cons (.str _) (okd_cons (.int _ (by rw [c51]; omega)) (okd_cons (.int _ (s_abs w.2)) okd_nil)))
  | .app op ps s, w => by
    rw [WF] at w
    rw [enX]
    exact .tup _ (Nat.le_of_ble_eq_true rfl) (okd_cons (.str _) (okd_cons (.str _) (okd_cons (.tup _ (by rw [enXs_map, List.length_map]; exact w.2.1.2) (okdXs ps w.2.2.1)) (okd_cons (.int _ (s_abs w.2.2.2)) okd_nil))))
  | .each op c e s, w => by
    rw [WF] at w
    rw [enX]
    exact .tup _ (Nat.le_of_ble_eq_true rfl) (okd_cons (.str _) (okd_cons (.str _) (okd_cons (.int _ (c_abs w.2.1)) (okd_cons (okdX e w.2.2.1) (okd_cons (.int _ (s_abs w.2.2.2)) okd_nil)))))
  | .fold op c e s, w => by
    rw [WF] at w
    rw [enX]
    exact .tup _ (Nat.le_of_ble_eq_true rfl) (okd_cons (.str _) (okd_cons (.str _) (okd_cons (.int _ (c_abs w.2.1)) (okd_cons (okdX e w.2.2.1) (okd_cons (.int _ (s_abs w.2.2.2)) okd_nil)))))
theorem okdXs : ∀ ps : List Ex, WFs ps → ∀ y ∈ enXs ps, Okd y
  | [], _ => by rw [enXs]; exact okd_nil
  | p :: ps, w => by
    rw [WFs] at w
    rw [enXs]
    exact okd_cons (okdX p w.1) (okdXs ps w.2)
end
end Tx
namespace Tx
open PySem Mi
variable {hp : Sh}
theorem cut_len {α : Type} {xs : List α} {lo hi : Option Int} : (cut xs lo hi).length ≤ xs.length := by
  unfold cut
  rw [List.length_take, List.length_drop]
  omega
theorem addT {xs ys : List PyData} (h : xs.length + ys.length ≤ 100000) : binD .Add (.tuple xs) (.tuple ys) = some (.tuple (xs ++ ys)) := by
  show (if xs.length + ys.length ≤ SZ then some (PyData.tuple (xs ++ ys)) else none) = _
  rw [if_pos (by unfold SZ; omega)]
section
variable {C : Nat → List Vl → Sh → R Vl} {G : Nat → Option PyData} {env : En} {h h1 h2 : Sh}
theorem e_slT {a hi : Te} {xs : List PyData} {j : Int} (e1 : evE C G a env h = .ok (.d (.tuple xs)) h1) (e2 : evE C G hi env h1 = .ok (.d (.int j)) h2) : evE C G (.sliceT a hi) env h = .ok (.d (.tuple (cut xs none (some j)))) h2 := by
  rw [evE, e1, b_ok, e2]; rfl
theorem e_slF {a lo : Te} {xs : List PyData} {j : Int} (e1 : evE C G a env h = .ok (.d (.tuple xs)) h1) (e2 : evE C G lo env h1 = .ok (.d (.int j)) h2) : evE C G (.sliceF a lo) env h = .ok (.d (.tuple (cut xs (some j) none))) h2 := by
  rw [evE, e1, b_ok, e2]; rfl
end
theorem lenT {K : Nat} {env : En} {h : Sh} {i : Nat} {xs : List PyData} (e : E84 K (.var i) env h = .ok (.d (.tuple xs)) h) : E84 K (.bi .len [.var i]) env h = .ok (.d (.int xs.length)) h := e_bi (es_cons e es_nil) rfl rfl
theorem strI {i : Int} (h : i.natAbs < 10 ^ 51) : biD .str [.int i] = some (.str (Str.ofString (toString i))) := by
  show (if okS i then some (PyData.str (Str.ofString (toString i))) else none) = _
  have : okS i = true := decide_eq_true (Nat.lt_trans h (by unfold LIS; exact Nat.pow_lt_pow_right (by decide) (by decide)))
  rw [this]
  rfl
theorem at_lt' {xs : List PyData} {v : Int} (h0 : 0 ≤ v) (h1 : v < xs.length) : ∃ x, x ∈ xs ∧ L2.atI xs v = some x := by
  obtain ⟨n, rfl⟩ : ∃ n : Nat, v = n := ⟨v.toNat, by omega⟩
  exact ⟨xs[n]'(by omega), List.getElem_mem _, at_k (List.getElem?_eq_getElem (by omega))⟩
/-- the way for tuples that are bent here -/
theorem b_tup {k N : Nat} {s : S3} {xs : List PyData} {n : Int} (b : Bd N s) (hN : N ≤ 800000) (l : xs.length ≤ 400) :
    ∃ x s', evSs (Cf84 (k + 1)) (GT gs) 1000 (f34.body.drop 1) [.v (.ref hp.length), .v (.d (.tuple xs)), .v (.d (.int n)), .no, .no] (hp ++ [ob s]) = .ok (.rt (.d x)) (hp ++ [ob s']) ∧ Bd (N + 2) s' := by
  have c1 := p31 (hp := hp) (k := k) (m := xs.length + 1) b (by omega) ⟨by omega, by omega⟩
  have d1 := dv_rg (s := s) (m := xs.length + 1) (by omega)
  have b1 := dn_bd (m := xs.length + 1) (by omega) b
  have c2 := p31 (hp := hp) (k := k) (m := 7) b1 (by omega) (by decide)
  have d2 := dv_rg (s := dn s (xs.length + 1)) (m := 7) (by decide)
  have b2 := dn_bd (m := 7) (by decide) b1
  generalize dv s (xs.length + 1) = v1 at *
  generalize dn s (xs.length + 1) = s1 at *
  generalize dv s1 7 = v2 at *
  obtain ⟨x, hx⟩ := at_lt (xs := [.list xs, .tuple (cut xs none (some v1) ++ cut xs (some (v1 + 1)) none), .tuple ((cut xs none (some v1) ++ [.int 0]) ++ cut xs (some v1) none), .tuple xs.reverse] ++ [.tuple (xs ++ cut xs (some (-1)) none), .tuple [.tuple xs], .tuple []]) d2.1 (by show _ < ((7 : Nat) : Int); exact d2.2)
  refine ⟨x, dn s1 7, ?_, b2⟩
  have L1 := fun lo hi => cut_len (xs := xs) (lo := lo) (hi := hi)
  have A : ∀ a b c d : Option Int, (cut xs a b).length + (cut xs c d).length ≤ 800 := fun a b c d => by have := L1 a b; have := L1 c d; omega
  refine (s_ifT (h1 := hp ++ [ob s]) (t_isi (x := .tuple xs) rfl rfl) ?_)
  refine (s_asg ((e_call (es_cons rfl (es_cons (e_bin (lenT rfl) rfl rfl) es_nil))).trans c1) rfl).trans ?_
  refine (s_asg (e_disp (es_cons (e_bi (es_cons rfl es_nil) rfl rfl) (es_cons (e_bin (e_slT rfl rfl) (e_slF rfl (e_bin rfl rfl rfl)) (addT (by have := A none (some v1) (some (v1 + 1)) none; omega))) (es_cons (e_bin (e_bin (e_slT rfl rfl) rfl (addT (by rw [List.length_singleton]; have := L1 none (some v1); omega))) (e_slF rfl rfl) (addT (by rw [List.length_append, List.length_singleton]; have := A none (some v1) (some v1) none; omega))) (es_cons rfl es_nil)))) rfl (Nat.le_of_ble_eq_true rfl)) rfl).trans ?_
  have hx' : ixD (.list ([.list xs, .tuple (cut xs none (some v1) ++ cut xs (some (v1 + 1)) none), .tuple ((cut xs none (some v1) ++ [.int 0]) ++ cut xs (some v1) none), .tuple xs.reverse] ++ [.tuple (xs ++ cut xs (some (-1)) none), .tuple [.tuple xs], .tuple []])) v2 = some x := hx
  refine s_ret (e_ix ?_ ((e_call (es_cons rfl (es_cons rfl es_nil))).trans c2) hx')
  exact e_bin rfl (e_disp (es_cons (e_bin rfl (e_slF rfl rfl) (addT (by have := L1 (some (-1)) none; omega))) (es_cons (e_tup (es_cons rfl es_nil) rfl (Nat.le_of_ble_eq_true rfl)) (es_cons rfl es_nil))) rfl (Nat.le_of_ble_eq_true rfl)) rfl
end Tx
namespace Tx
open PySem Mi
variable {hp : Sh}
theorem b_int {k N : Nat} {s : S3} {i n : Int} (b : Bd N s) (hN : N ≤ 800000) (l : i.natAbs < 10 ^ 51) :
    ∃ x s', evSs (Cf84 (k + 1)) (GT gs) 1000 (f34.body.drop 1) [.v (.ref hp.length), .v (.d (.int i)), .v (.d (.int n)), .no, .no] (hp ++ [ob s]) = .ok (.rt (.d x)) (hp ++ [ob s']) ∧ Bd (N + 2) s' := by
  have c1 := p31 (hp := hp) (k := k) (m := 6) b (by omega) (by decide)
  have d1 := dv_rg (s := s) (m := 6) (by decide)
  have b1 := dn_bd (m := 6) (by decide) b
  generalize dv s 6 = v1 at *
  generalize dn s 6 = s1 at *
  obtain ⟨x, hx⟩ := at_lt (xs := [.int (i + 1), .int (i - 1), .int (0 - i), .str (Str.ofString (toString i)), .bool (decide (i = 1)), .tuple [.int i]]) d1.1 (by show _ < ((6 : Nat) : Int); exact d1.2)
  have hx' : ixD (.list [.int (i + 1), .int (i - 1), .int (0 - i), .str (Str.ofString (toString i)), .bool (decide (i = 1)), .tuple [.int i]]) v1 = some x := hx
  refine ⟨x, s1, ?_, ⟨b1.1, b1.2.1, b1.2.2.1, by have := b1.2.2.2; omega⟩⟩
  refine (s_ifF (h1 := hp ++ [ob s]) (t_isi (x := .int i) rfl rfl)).trans ?_
  refine s_ifT (h1 := hp ++ [ob s]) ((t_andT (t_isi (x := .int i) rfl rfl)).trans (t_and1.trans (t_nT (t_isi (x := .int i) rfl rfl)))) ?_
  exact s_ret (e_ix (e_disp (es_cons (e_bin rfl rfl rfl) (es_cons (e_bin rfl rfl rfl) (es_cons (e_bin rfl rfl rfl) (es_cons (e_bi (es_cons rfl es_nil) rfl (strI l)) (es_cons (e_cmp rfl rfl (cmp_eq.trans eq_int)) (es_cons (e_tup (es_cons rfl es_nil) rfl (Nat.le_of_ble_eq_true rfl)) es_nil)))))) rfl (Nat.le_of_ble_eq_true rfl)) ((e_call (es_cons rfl (es_cons rfl es_nil))).trans c1) hx')
end Tx
namespace Tx
open PySem Mi
variable {hp : Sh}
theorem Bd.mono {N M : Nat} {s : S3} (b : Bd N s) (h : N ≤ M) : Bd M s := ⟨b.1, b.2.1, b.2.2.1, by have := b.2.2.2; omega⟩
theorem b_str {k N : Nat} {s : S3} {w : Str} {n : Int} (b : Bd N s) (hN : N ≤ 800000) :
    ∃ x s', evSs (Cf84 (k + 2)) (GT gs) 1000 (f34.body.drop 1) [.v (.ref hp.length), .v (.d (.str w)), .v (.d (.int n)), .no, .no] (hp ++ [ob s]) = .ok (.rt (.d x)) (hp ++ [ob s']) ∧ Bd (N + 2) s' := by
  obtain ⟨x, hx⟩ := p33 (hp := hp) (k := k) b (by omega)
  refine ⟨x, _, ?_, (dn_bd (m := 21) (by decide) b).mono (by omega)⟩
  refine (s_ifF (h1 := hp ++ [ob s]) (t_isi (x := .str w) rfl rfl)).trans ?_
  refine (s_ifF (h1 := hp ++ [ob s]) (t_andF (t_isi (x := .str w) rfl rfl))).trans ?_
  exact s_ret ((e_call rfl).trans hx)
theorem b_any {k N : Nat} {s : S3} {d : PyData} {n : Int} (o : Okd d) (b : Bd N s) (hN : N ≤ 800000) :
    ∃ x s', evSs (Cf84 (k + 2)) (GT gs) 1000 (f34.body.drop 1) [.v (.ref hp.length), .v (.d d), .v (.d (.int n)), .no, .no] (hp ++ [ob s]) = .ok (.rt (.d x)) (hp ++ [ob s']) ∧ Bd (N + 2) s' := by
  cases o with
  | tup xs l _ => exact b_tup b hN l
  | int i l => exact b_int b hN l
  | str w => exact b_str b hN
theorem p34 : ∀ (n : Nat) (k N : Nat) (s : S3) (d : PyData), Okd d → Bd N s → N + 4 * n + 10 ≤ 800000 → ∃ x s', Cl (k + n + 3) 34 [.ref hp.length, .d d, .d (.int n)] (hp ++ [ob s]) = .ok (.d x) (hp ++ [ob s']) ∧ Bd (N + 2 * n + 3) s' := by
  intro n
  induction n with
  | zero =>
    intro k N s d o b hN
    obtain ⟨x, s', q, b'⟩ := b_any (hp := hp) (k := k) (n := ((0 : Nat) : Int)) o b (by omega)
    refine ⟨x, s', ?_, b'.mono (by omega)⟩
    rw [Cl, call_at φ34 rfl]
    refine fin_end ((s_ifF (h1 := hp ++ [ob s]) ?_).trans q)
    cases o with
    | tup xs l _ =>
      refine (t_andT (t_isi (x := .tuple xs) rfl rfl)).trans ?_
      have t : tru (E84 (k + 2) (.cmp .NotEq (.var 1) (.tup [])) [.v (.ref hp.length), .v (.d (.tuple xs)), .v (.d (.int ((0 : Nat) : Int))), .no, .no] (hp ++ [ob s])) = .ok (!xs.isEmpty) (hp ++ [ob s]) := t_cmp (y := .tuple []) rfl rfl rfl
      cases e : xs.isEmpty with
      | true => exact t_andF (t.trans (by rw [e]; rfl))
      | false => exact (t_andT (t.trans (by rw [e]; rfl))).trans (t_andF (t_cmp rfl rfl rfl))
    | int i l => exact t_andF (t_isi (x := .int i) rfl rfl)
    | str w => exact t_andF (t_isi (x := .str w) rfl rfl)
  | succ n ih =>
    intro k N s d o b hN
    have other : ∀ s1 : S3, Bd (N + 1) s1 → tru (E84 (k + n + 3) (.and [.isi (.var 1) [.tuple], .cmp .NotEq (.var 1) (.tup []), .cmp .Gt (.var 2) (.cst (.int 0)), .cmp .Gt (.call 31 [.var 0, .cst (.int 4)]) (.cst (.int 0))]) [.v (.ref hp.length), .v (.d d), .v (.d (.int ((n + 1 : Nat) : Int))), .no, .no] (hp ++ [ob s])) = .ok false (hp ++ [ob s1]) → ∃ x s', Cl (k + (n + 1) + 3) 34 [.ref hp.length, .d d, .d (.int ((n + 1 : Nat) : Int))] (hp ++ [ob s]) = .ok (.d x) (hp ++ [ob s']) ∧ Bd (N + 2 * (n + 1) + 3) s' := fun s1 b1 t => by
      obtain ⟨x, s', q, b'⟩ := b_any (hp := hp) (k := k + n + 1) (n := ((n + 1 : Nat) : Int)) o b1 (by omega)
      refine ⟨x, s', ?_, b'.mono (by omega)⟩
      rw [show k + (n + 1) + 3 = (k + n + 3) + 1 by omega, Cl, call_at φ34 rfl]
      exact fin_end ((s_ifF t).trans q)
    cases o with
    | int i l => exact other s (b.mono (by omega)) (t_andF (t_isi (x := .int i) rfl rfl))
    | str w => exact other s (b.mono (by omega)) (t_andF (t_isi (x := .str w) rfl rfl))
    | tup xs l ho =>
      have t : tru (E84 (k + n + 3) (.cmp .NotEq (.var 1) (.tup [])) [.v (.ref hp.length), .v (.d (.tuple xs)), .v (.d (.int ((n + 1 : Nat) : Int))), .no, .no] (hp ++ [ob s])) = .ok (!xs.isEmpty) (hp ++ [ob s]) := t_cmp (y := .tuple []) rfl rfl rfl
      cases e : xs.isEmpty with
      | true => exact other s (b.mono (by omega)) ((t_andT (t_isi (x := .tuple xs) rfl rfl)).trans (t_andF (t.trans (by rw [e]; rfl))))
      | false =>
        have c1 := p31 (hp := hp) (k := k + n + 2) (m := 4) b (by omega) (by decide)
        have b1 := dn_bd (m := 4) (by decide) b
        have t3 : tru (E84 (k + n + 3) (.cmp .Gt (.var 2) (.cst (.int 0))) [.v (.ref hp.length), .v (.d (.tuple xs)), .v (.d (.int ((n + 1 : Nat) : Int))), .no, .no] (hp ++ [ob s])) = .ok true (hp ++ [ob s]) := t_cmp (x := .int ((n + 1 : Nat) : Int)) (y := .int 0) rfl rfl (by show some (decide ((0 : Int) < ((n + 1 : Nat) : Int))) = _; rw [decide_eq_true (by omega)])
        have t4 : tru (E84 (k + n + 3) (.cmp .Gt (.call 31 [.var 0, .cst (.int 4)]) (.cst (.int 0))) [.v (.ref hp.length), .v (.d (.tuple xs)), .v (.d (.int ((n + 1 : Nat) : Int))), .no, .no] (hp ++ [ob s])) = .ok (decide (0 < dv s 4)) (hp ++ [ob (dn s 4)]) := t_cmp ((e_call (es_cons rfl (es_cons rfl es_nil))).trans c1) rfl rfl
        have tt := (t_andT (r := [.cmp .Gt (.var 2) (.cst (.int 0)), .cmp .Gt (.call 31 [.var 0, .cst (.int 4)]) (.cst (.int 0))]) (t_isi (C := Cf84 (k + n + 3)) (G := GT gs) (h := hp ++ [ob s]) (a := .var 1) (t := .tuple) (env := [.v (.ref hp.length), .v (.d (.tuple xs)), .v (.d (.int ((n + 1 : Nat) : Int))), .no, .no]) (x := .tuple xs) (v := true) rfl rfl)).trans ((t_andT (t.trans (by rw [e]; rfl))).trans ((t_andT t3).trans (t_and1.trans t4)))
        by_cases c : 0 < dv s 4
        · have lx : 1 ≤ xs.length := by
            cases xs with
            | nil => cases e
            | cons _ _ => rw [List.length_cons]; omega
          have c2 := p31 (hp := hp) (k := k + n + 2) (m := xs.length) b1 (by omega) ⟨by omega, by omega⟩
          have d2 := dv_rg (s := dn s 4) (m := xs.length) (by omega)
          have b2 := dn_bd (m := xs.length) (by omega) b1
          obtain ⟨y, my, hy⟩ := at_lt' d2.1 d2.2
          obtain ⟨x, s', q, b'⟩ := ih k (N + 2) _ y (ho y my) b2 (by omega)
          refine ⟨.tuple ((cut xs none (some (dv (dn s 4) xs.length)) ++ [x]) ++ cut xs (some (dv (dn s 4) xs.length + 1)) none), s', ?_, b'.mono (by omega)⟩
          rw [show k + (n + 1) + 3 = (k + n + 3) + 1 by omega, Cl, call_at φ34 rfl]
          have l1 := cut_len (xs := xs) (lo := none) (hi := some (dv (dn s 4) xs.length))
          have l2 := cut_len (xs := xs) (lo := some (dv (dn s 4) xs.length + 1)) (hi := none)
          refine fin_end (s_ifT (tt.trans (by rw [decide_eq_true c])) ((s_asg ((e_call (es_cons rfl (es_cons (lenT rfl) es_nil))).trans c2) rfl).trans (s_ret ?_)))
          refine e_bin (e_bin (e_slT rfl rfl) (e_tup (es_cons ((e_call (es_cons rfl (es_cons (e_ix (x := .tuple xs) rfl rfl hy) (es_cons (e_bin rfl rfl ?_) es_nil)))).trans q) es_nil) rfl (Nat.le_of_ble_eq_true rfl)) (addT (by rw [List.length_singleton]; omega))) (e_slF rfl (e_bin rfl rfl rfl)) (addT (by rw [List.length_append, List.length_singleton]; omega))
          show some (PyData.int (((n + 1 : Nat) : Int) - 1)) = _
          rw [show ((n + 1 : Nat) : Int) - 1 = (n : Int) by omega]
        · exact other _ b1 (tt.trans (by rw [decide_eq_false c]))
end Tx
namespace Tx
open PySem Mi
/-- drawn expressions, n levels at most -/
def Dr : Nat → Ex → Prop
  | 0, _ => False
  | _ + 1, .load v s => (0 ≤ v ∧ v ≤ 996) ∧ 0 ≤ s ∧ s ≤ 49
  | n + 1, .app op ps s => op ∈ ops ∧ (1 ≤ ps.length ∧ ps.length ≤ 3) ∧ (∀ p ∈ ps, Dr n p) ∧ 0 ≤ s ∧ s ≤ 49
  | n + 1, .each op c e s => op ∈ ops ∧ (1 ≤ c ∧ c ≤ 1000000000) ∧ Dr n e ∧ 0 ≤ s ∧ s ≤ 49
  | n + 1, .fold op c e s => op ∈ ops ∧ (1 ≤ c ∧ c ≤ 1000000000) ∧ Dr n e ∧ 0 ≤ s ∧ s ≤ 49
theorem dr_sz {n : Nat} {e : Ex} (d : Dr n e) : 0 ≤ sz e ∧ sz e ≤ 49 := by
  cases n with
  | zero => rw [Dr] at d; exact d.elim
  | succ n =>
    cases e <;> rw [Dr] at d <;> simp only [sz]
    · exact d.2
    · exact d.2.2.2
    · exact d.2.2.2
    · exact d.2.2.2
theorem c_mx {c : Int} (h : 1 ≤ c ∧ c ≤ 1000000000) : 1 ≤ c ∧ c ≤ mxI := by rw [mx]; omega
theorem s_mx {s : Int} (h : 0 ≤ s ∧ s ≤ 49) : 0 ≤ s ∧ s ≤ mxS := by rw [mxS_eq]; omega
theorem WFs_of : ∀ {ps : List Ex}, (∀ p ∈ ps, WF p) → WFs ps
  | [], _ => by rw [WFs]; trivial
  | p :: ps, h => by rw [WFs]; exact ⟨h p List.mem_cons_self, WFs_of fun q m => h q (List.mem_cons_of_mem _ m)⟩
theorem dr_wf : ∀ (n : Nat) (e : Ex), Dr n e → WF e
  | 0, e, d => by rw [Dr] at d; exact d.elim
  | n + 1, .load v s, d => by rw [Dr] at d; rw [WF]; exact ⟨d.1, s_mx d.2⟩
  | n + 1, .app op ps s, d => by
    rw [Dr] at d
    rw [WF]
    exact ⟨d.1, ⟨d.2.1.1, by omega⟩, WFs_of fun p m => dr_wf n p (d.2.2.1 p m), s_mx d.2.2.2⟩
  | n + 1, .each op c e s, d => by rw [Dr] at d; rw [WF]; exact ⟨d.1, c_mx d.2.1, dr_wf n e d.2.2.1, s_mx d.2.2.2⟩
  | n + 1, .fold op c e s, d => by rw [Dr] at d; rw [WF]; exact ⟨d.1, c_mx d.2.1, dr_wf n e d.2.2.1, s_mx d.2.2.2⟩
def JB : Nat → Nat
  | 0 => 0
  | n + 1 => 5 + 3 * JB n
theorem jns_le {B : Nat} : ∀ ps : List Ex, (∀ p ∈ ps, jn p ≤ B) → jns ps ≤ ps.length * B
  | [], _ => by rw [jns]; exact Nat.zero_le _
  | p :: ps, h => by
    have a := jns_le ps fun q m => h q (List.mem_cons_of_mem _ m)
    have b := h p List.mem_cons_self
    rw [jns, List.length_cons, Nat.succ_mul]
    omega
theorem len3 {n B : Nat} (h : n ≤ 3) : n * B ≤ 3 * B := Nat.mul_le_mul_right _ h
theorem dr_jn : ∀ (n : Nat) (e : Ex), Dr n e → jn e ≤ JB n
  | 0, e, d => by rw [Dr] at d; exact d.elim
  | n + 1, .load v s, d => by rw [jn, JB]; omega
  | n + 1, .app op ps s, d => by
    rw [Dr] at d
    have a := jns_le ps fun p m => dr_jn n p (d.2.2.1 p m)
    have b := len3 (B := JB n) d.2.1.2
    rw [jn, JB]
    omega
  | n + 1, .each op c e s, d => by
    rw [Dr] at d
    have a := dr_jn n e d.2.2.1
    rw [jn, JB]; omega
  | n + 1, .fold op c e s, d => by
    rw [Dr] at d
    have a := dr_jn n e d.2.2.1
    rw [jn, JB]; omega
theorem JB3 {n : Nat} (h : n ≤ 3) : JB n ≤ 65 := by
  match n, h with
  | 0, _ => decide
  | 1, _ => decide
  | 2, _ => decide
  | 3, _ => decide
theorem btw_t {lo hi i : Int} (h : lo ≤ i) (g : i ≤ hi) : btw lo hi (.int i) = true := by
  rw [btw, decide_eq_true h, decide_eq_true g]; rfl
theorem isop_t {op : Str} (h : op ∈ ops) : isop (.str op) = true := by rw [isop, decide_eq_true h]
theorem issz_t {s : Int} (h : 0 ≤ s ∧ s ≤ mxS) : issz (.int s) = true := btw_t h.1 h.2
theorem pjL_t {k B : Nat} : ∀ (ps : List Ex) (c : Nat), (∀ p ∈ ps, pj k (enX p) = some p ∧ jn p ≤ B) → c + B * ps.length ≤ 400 → pjL k (enXs ps) c = some ps
  | [], c, _, _ => by rw [enXs, pjL]
  | p :: ps, c, h, l => by
    have b := h p List.mem_cons_self
    rw [List.length_cons, Nat.mul_succ] at l
    have a := pjL_t ps (c + jn p) (fun q m => h q (List.mem_cons_of_mem _ m)) (by omega)
    rw [enXs, pjL, b.1]
    dsimp only
    rw [if_neg (by omega), a]
theorem enXs_len : ∀ ps : List Ex, (enXs ps).length = ps.length := fun ps => by rw [enXs_map, List.length_map]
theorem dr_pj : ∀ (n m : Nat) (e : Ex), Dr n e → n ≤ 4 → pj (n + m) (enX e) = some e
  | 0, m, e, d, _ => by rw [Dr] at d; exact d.elim
  | n + 1, m, .load v s, d, _ => by
    rw [Dr] at d
    rw [enX, show n + 1 + m = (n + m) + 1 by omega]
    unfold pj
    dsimp only
    rw [if_pos rfl, btw_t d.1.1 d.1.2, issz_t (s_mx d.2)]
    rfl
  | n + 1, m, .app op ps s, d, l => by
    rw [Dr] at d
    have q := pjL_t (k := n + m) (B := 65) ps 0 (fun p mm => ⟨dr_pj n m p (d.2.2.1 p mm) (by omega), Nat.le_trans (dr_jn n p (d.2.2.1 p mm)) (JB3 (by omega))⟩) (by have := d.2.1.2; omega)
    rw [enX, show n + 1 + m = (n + m) + 1 by omega]
    unfold pj
    dsimp only
    rw [if_neg (by decide +kernel), if_pos rfl, isop_t d.1, issz_t (s_mx d.2.2.2), decide_eq_true (show 1 ≤ (enXs ps).length ∧ (enXs ps).length ≤ 400 by rw [enXs_len]; omega), q]
    rfl
  | n + 1, m, .each op c e s, d, l => by
    rw [Dr] at d
    have q := dr_pj n m e d.2.2.1 (by omega)
    have cm := c_mx d.2.1
    rw [enX, show n + 1 + m = (n + m) + 1 by omega]
    unfold pj
    dsimp only
    rw [if_neg (by decide +kernel), if_neg (by decide +kernel), if_pos (Or.inl rfl), isop_t d.1, btw_t cm.1 cm.2, issz_t (s_mx d.2.2.2), q]
    rfl
  | n + 1, m, .fold op c e s, d, l => by
    rw [Dr] at d
    have q := dr_pj n m e d.2.2.1 (by omega)
    have cm := c_mx d.2.1
    rw [enX, show n + 1 + m = (n + m) + 1 by omega]
    unfold pj
    dsimp only
    rw [if_neg (by decide +kernel), if_neg (by decide +kernel), if_pos (Or.inr rfl), isop_t d.1, btw_t cm.1 cm.2, issz_t (s_mx d.2.2.2), q]
    dsimp only
    rw [if_pos (show (true && true && true) = true from rfl)]
    congr 1
/-! ### measured, of drawn jobs -/
theorem m_i {k : Nat} {i : Int} (h : -mxI ≤ i) (g : i ≤ mxI) (hk : 1 ≤ k := by omega) : meas k (.int i) = some (1, 1) := by
  obtain ⟨n, rfl⟩ : ∃ n, k = n + 1 := ⟨k - 1, by omega⟩
  unfold meas
  rw [btw_t (by omega) g]
  rfl
theorem m_t {n : Nat} {w : Str} {ps : List PyData} (hw : w = ("seq" : Str) ∨ w = ("par" : Str)) (l : ps.length ≤ 400) : meas (n + 1) (.tuple [.str w, .tuple ps]) = measL n ps 1 0 := by
  rw [meas.eq_def]
  dsimp only
  rw [show btw (0 - mxI) mxI (.tuple [.str w, .tuple ps]) = false from rfl, if_neg Bool.false_ne_true, if_pos hw, if_neg (by omega)]
theorem m_c {n : Nat} {w : Str} {c a b : Int} {x : PyData} (hw : w = ("repeat" : Str) ∨ w = ("copies" : Str)) (hc : 0 ≤ c ∧ c ≤ mxI) (hx : meas n x = some (a, b)) (ha : a ≠ 400) (hb : c * b ≤ mxI) : meas (n + 1) (.tuple [.str w, .int c, x]) = some (1 + a, c * b) := by
  rw [meas.eq_def]
  dsimp only
  rw [show btw (0 - mxI) mxI (.tuple [.str w, .int c, x]) = false from rfl, if_neg Bool.false_ne_true, if_pos hw, btw_t hc.1 hc.2, if_pos rfl, hx]
  dsimp only
  rw [if_neg (by show ¬ (a = 400 ∨ c * b > mxI); omega)]
  rfl
theorem mL_n {n : Nat} {a b : Int} : measL n [] a b = some (a, b) := by rw [measL]
theorem mL_c {n : Nat} {x : PyData} {xs : List PyData} {a b p q : Int} (hx : meas n x = some (p, q)) (ha : a + p ≤ 400) (hb : b + q ≤ mxI) : measL n (x :: xs) a b = measL n xs (a + p) (b + q) := by
  rw [measL, hx]
  dsimp only
  rw [if_neg (by omega)]
theorem mL_j {m : Nat} {A B : Int} : ∀ (ps : List Ex) (a0 b0 : Int), (∀ p ∈ ps, ∃ a b, meas m (job p) = some (a, b) ∧ (1 ≤ a ∧ a ≤ A) ∧ 0 ≤ b ∧ b ≤ B) → a0 + A * ps.length ≤ 400 → b0 + B * ps.length ≤ mxI → 0 ≤ A → 0 ≤ B →
    ∃ a b, measL m (jobs ps) a0 b0 = some (a, b) ∧ (a0 ≤ a ∧ a ≤ a0 + A * ps.length) ∧ b0 ≤ b ∧ b ≤ b0 + B * ps.length
  | [], a0, b0, _, _, _, _, _ => ⟨a0, b0, by rw [jobs, mL_n], by simp, by simp⟩
  | p :: ps, a0, b0, h, la, lb, hA, hB => by
    obtain ⟨a, b, q, ha, hb⟩ := h p List.mem_cons_self
    rw [List.length_cons, Int.natCast_add, Int.mul_add] at la lb
    have pA : 0 ≤ A * (ps.length : Int) := Int.mul_nonneg hA (by omega)
    have pB : 0 ≤ B * (ps.length : Int) := Int.mul_nonneg hB (by omega)
    obtain ⟨a', b', q', ha', hb'⟩ := mL_j ps (a0 + a) (b0 + b) (fun r m => h r (List.mem_cons_of_mem _ m)) (by omega) (by omega) hA hB
    refine ⟨a', b', ?_, ?_⟩
    · rw [jobs, mL_c q (by omega) (by omega), q']
    · rw [List.length_cons, Int.natCast_add, Int.mul_add, Int.mul_add]
      omega
def SB : Nat → Int
  | 0 => 0
  | 1 => 1
  | n + 2 => 1000000000 * (SB (n + 1) + 1) + 3
theorem SB_nn : ∀ n, 0 ≤ SB n
  | 0 => by decide
  | 1 => by decide
  | n + 2 => by have := SB_nn (n + 1); rw [SB]; omega
theorem SB4 {n : Nat} (h : n ≤ 3) : SB n ≤ 10000000000000000000 := by
  match n, h with
  | 0, _ => decide
  | 1, _ => decide
  | 2, _ => decide
  | 3, _ => decide
theorem dr_meas : ∀ (n m : Nat) (e : Ex), Dr n e → n ≤ 4 → ∃ a b, meas (3 * n + m) (job e) = some (a, b) ∧ (1 ≤ a ∧ a ≤ JB n) ∧ 0 ≤ b ∧ b ≤ SB n
  | 0, m, e, d, _ => by rw [Dr] at d; exact d.elim
  | n + 1, m, .load v s, d, _ => by
    rw [Dr] at d
    refine ⟨1, 1, ?_, ⟨by omega, by rw [JB]; omega⟩, by omega, ?_⟩
    · rw [job, show 3 * (n + 1) + m = (3 * n + m + 2) + 1 by omega]
      exact m_i (by rw [mx]; omega) (by rw [mx]; omega)
    · cases n with
      | zero => decide
      | succ n => have := SB_nn (n + 1); rw [SB]; omega
  | 1, m, .app op ps s, d, _ => by
    rw [Dr] at d
    cases ps with
    | nil => exact absurd d.2.1.1 (by decide)
    | cons p ps => have := d.2.2.1 p List.mem_cons_self; rw [Dr] at this; exact this.elim
  | 1, m, .each op c e s, d, _ => by rw [Dr] at d; have := d.2.2.1; rw [Dr] at this; exact this.elim
  | 1, m, .fold op c e s, d, _ => by rw [Dr] at d; have := d.2.2.1; rw [Dr] at this; exact this.elim
  | n + 2, m, .app op ps s, d, l => by
    rw [Dr] at d
    have hS := SB4 (n := n + 1) (by omega)
    have hS0 := SB_nn (n + 1)
    have hJ := JB3 (n := n + 1) (by omega)
    have l3 := d.2.1.2
    have sA : ((JB (n + 1) : Nat) : Int) * (ps.length : Int) ≤ (JB (n + 1) : Nat) * 3 := Int.mul_le_mul_of_nonneg_left (by omega) (by omega)
    have sB : SB (n + 1) * (ps.length : Int) ≤ SB (n + 1) * 3 := Int.mul_le_mul_of_nonneg_left (by omega) hS0
    obtain ⟨a, b, q, ha, hb⟩ := mL_j (m := 3 * (n + 1) + (m + 1)) (A := JB (n + 1)) (B := SB (n + 1)) ps 1 0 (fun p mm => dr_meas (n + 1) (m + 1) p (d.2.2.1 p mm) (by omega)) (by omega) (by rw [mx]; omega) (by omega) hS0
    have sb : 0 ≤ szs ps ∧ szs ps ≤ 49 * ps.length := by
      have := d.2.2.1
      clear q sA sB
      generalize ps = qs at this ⊢
      induction qs with
      | nil => rw [szs]; decide
      | cons p qs ih =>
        have i := ih fun r mm => this r (List.mem_cons_of_mem _ mm)
        have j := dr_sz (this p List.mem_cons_self)
        rw [szs, List.length_cons]
        omega
    refine ⟨1 + a + 1 + 1, 0 + b + 1 + 1, ?_, ⟨by omega, by rw [JB]; omega⟩, by omega, by rw [SB]; omega⟩
    rw [job, show 3 * (n + 2) + m = (3 * (n + 1) + m + 1 + 1) + 1 by omega, m_t (Or.inl rfl) (Nat.le_of_ble_eq_true rfl), mL_c (p := a) (q := b) ?_ (by omega) (by rw [mx]; omega), mL_c (m_i (by rw [mx]; omega) (by rw [mx]; omega)) (by omega) (by rw [mx]; omega), mL_c (m_i (by rw [mx]; omega) (by rw [mx]; omega)) (by omega) (by rw [mx]; omega), mL_n]
    rw [m_t (Or.inr rfl) (by rw [jobs_map, List.length_map]; omega)]
    exact q
  | n + 2, m, .each op c e s, d, l => by
    rw [Dr] at d
    have hS := SB4 (n := n + 1) (by omega)
    have hS0 := SB_nn (n + 1)
    have hJ := JB3 (n := n + 1) (by omega)
    obtain ⟨a, b, q, ha, hb⟩ := dr_meas (n + 1) (m + 1) e d.2.2.1 (by omega)
    have z := dr_sz d.2.2.1
    have c0 := d.2.1
    have m1 : c * b ≤ 1000000000 * SB (n + 1) := Int.mul_le_mul c0.2 hb.2 hb.1 (by omega)
    have m2 : 0 ≤ c * b := Int.mul_nonneg (by omega) hb.1
    have m3 : c * sz e ≤ 1000000000 * 49 := Int.mul_le_mul c0.2 z.2 z.1 (by omega)
    have m4 : 0 ≤ c * sz e := Int.mul_nonneg (by omega) z.1
    refine ⟨1 + (1 + a) + 1 + 1, 0 + c * b + 1 + 1, ?_, ⟨by omega, by rw [JB]; omega⟩, by omega, by rw [SB]; omega⟩
    rw [job, show 3 * (n + 2) + m = (3 * (n + 1) + m + 1 + 1) + 1 by omega, m_t (Or.inl rfl) (Nat.le_of_ble_eq_true rfl), mL_c (p := 1 + a) (q := c * b) ?_ (by omega) (by rw [mx]; omega), mL_c (m_i (by rw [mx]; omega) (by rw [mx]; omega)) (by omega) (by rw [mx]; omega), mL_c (m_i (by rw [mx]; omega) (by rw [mx]; omega)) (by omega) (by rw [mx]; omega), mL_n]
    exact m_c (Or.inr rfl) ⟨by omega, (c_mx c0).2⟩ q (by omega) (by rw [mx]; omega)
  | n + 2, m, .fold op c e s, d, l => by
    rw [Dr] at d
    have hS := SB4 (n := n + 1) (by omega)
    have hS0 := SB_nn (n + 1)
    have hJ := JB3 (n := n + 1) (by omega)
    obtain ⟨a, b, q, ha, hb⟩ := dr_meas (n + 1) m e d.2.2.1 (by omega)
    have z := dr_sz d.2.2.1
    have c0 := d.2.1
    have m1 : c * (0 + b + 1) ≤ 1000000000 * (SB (n + 1) + 1) := Int.mul_le_mul c0.2 (by omega) (by omega) (by omega)
    have m2 : 0 ≤ c * (0 + b + 1) := Int.mul_nonneg (by omega) (by omega)
    refine ⟨1 + 1 + (1 + (1 + a + 1)), 0 + 1 + c * (0 + b + 1), ?_, ⟨by omega, by rw [JB]; omega⟩, by omega, by rw [SB]; omega⟩
    rw [job, show 3 * (n + 2) + m = (3 * (n + 1) + m + 1 + 1) + 1 by omega, m_t (Or.inl rfl) (Nat.le_of_ble_eq_true rfl), mL_c (m_i (by rw [mx]; omega) (by rw [mx]; omega)) (by omega) (by rw [mx]; omega), mL_c (p := 1 + (1 + a + 1)) (q := c * (0 + b + 1)) ?_ (by omega) (by rw [mx]; omega), mL_n]
    refine m_c (Or.inl rfl) ⟨by omega, (c_mx c0).2⟩ ?_ (by omega) (by rw [mx]; omega)
    rw [m_t (Or.inl rfl) (Nat.le_of_ble_eq_true rfl), mL_c q (by omega) (by rw [mx]; omega), mL_c (m_i (by rw [mx]; omega) (by rw [mx]; omega)) (by omega) (by rw [mx]; omega), mL_n]
theorem dr_ex {n : Nat} {e : Ex} (d : Dr n e) (h : n ≤ 4) : exOf (enX e) = some e := by
  have q := dr_pj n (13 - n) e d h
  obtain ⟨a, b, p, _⟩ := dr_meas n (13 - 3 * n) e d h
  rw [show n + (13 - n) = 13 by omega] at q
  rw [show 3 * n + (13 - 3 * n) = 13 by omega] at p
  unfold exOf
  rw [q]
  dsimp only
  rw [p]
  rfl
end Tx
namespace Tx
open PySem Mi
section
variable {C : Nat → List Vl → Sh → R Vl} {G : Nat → Option PyData} {env : En} {h h1 h2 : Sh}
theorem xs_e' {e : Te} {r : List Tm} {x : Vl} {xs : List Sl} (q : evE C G e env h = .ok x h1) (q2 : evXs C G r env h1 = .ok xs h2) : evXs C G (.e e :: r) env h = .ok (.v x :: xs) h2 := by
  rw [evXs, q, b_ok, q2, b_ok]
theorem l_compI {elt : Te} {tg : Tg} {kk : It} {es : List Te} {xs items : List Vl} {ys : List PyData} (q : evEs C G es env h = .ok xs h1) (i : evIt kk xs = some items) (l : items.length ≤ SZ) (c : compLoop tg (evC C G []) (evE C G elt) (wipeE tg.names env) items h1 = .ok ys h2) :
    evL C G (.comp elt tg kk es []) env h = .ok ys h2 := by
  rw [evL, q, b_ok]
  simp only [i]
  rw [if_pos l]
  exact c
theorem comp_nil {tg : Tg} {cond : En → Sh → R Bool} {elt : En → Sh → R Vl} : compLoop tg cond elt env [] h = .ok [] h := by rw [compLoop]
theorem comp_next {tg : Tg} {elt : En → Sh → R Vl} {x : Vl} {xs : List Vl} {env' : En} {y : PyData} {ys : List PyData} (e : bindTg tg x env = some env') (q : elt env' h = .ok (.d y) h1) (q2 : compLoop tg (evC C G []) elt env xs h1 = .ok ys h2) : compLoop tg (evC C G []) elt env (x :: xs) h = .ok (y :: ys) h2 := by
  have e0 : evC C G [] env' h = .ok true h := by rw [evC]
  rw [compLoop, e]
  simp only [e0, noEx, b_ok, if_true, q, q2]
theorem e_ixT {a i : Te} {x z : PyData} {j : Int} (e1 : evE C G a env h = .ok (.d x) h1) (e2 : evE C G i env h1 = .ok (.d (.int j)) h2) (e : ixD x j = some z) : evE C G (.ix a i) env h = .ok (.d z) h2 := e_ix e1 e2 e
end
def DC : Nat → Nat
  | 0 => 10
  | n + 1 => 10 + 3 * DC n
def Cts (cs : List PyData) : Prop := (1 ≤ cs.length ∧ cs.length ≤ 100) ∧ ∀ x ∈ cs, ∃ c : Int, x = .int c ∧ 1 ≤ c ∧ c ≤ 1000000000
variable {hp : Sh}
theorem φ35' : ΦT ds 35 = some f35 := rfl
abbrev En35 (L n : Nat) (cs : List PyData) (a b c d e f : Sl) : En := [.v (.ref L), .v (.d (.int (n : Int))), .v (.d (.list cs)), a, b, c, d, e, f]
theorem head35 {K N n : Nat} {s : S3} {cs : List PyData} (b : Bd N s) (hN : N ≤ 800000) : ∃ w z s', evXs (Cf84 (K + 1)) (GT gs) [.e (.call 31 [.var 0, .cst (.int 8)]), .e (.ix (.ofL (.disp [.cst (.int 0), .cst (.int 1), .cst (.int 2), .cst (.int 3), .cst (.int 9), .call 31 [.var 0, .cst (.int 50)]])) (.call 31 [.var 0, .cst (.int 6)]))] (En35 hp.length n cs .no .no .no .no .no .no) (hp ++ [ob s]) = .ok [.v (.d (.int w)), .v (.d (.int z))] (hp ++ [ob s']) ∧ (0 ≤ w ∧ w < 8) ∧ (0 ≤ z ∧ z ≤ 49) ∧ Bd (N + 3) s' := by
  have c1 := p31 (hp := hp) (k := K) (m := 8) b (by omega) (by decide)
  have d1 := dv_rg (s := s) (m := 8) (by decide)
  have b1 := dn_bd (m := 8) (by decide) b
  generalize dv s 8 = v1 at *
  generalize dn s 8 = s1 at *
  have c2 := p31 (hp := hp) (k := K) (m := 50) b1 (by omega) (by decide)
  have d2 := dv_rg (s := s1) (m := 50) (by decide)
  have b2 := dn_bd (m := 50) (by decide) b1
  generalize dv s1 50 = v2 at *
  generalize dn s1 50 = s2 at *
  have c3 := p31 (hp := hp) (k := K) (m := 6) b2 (by omega) (by decide)
  have d3 := dv_rg (s := s2) (m := 6) (by decide)
  have b3 := dn_bd (m := 6) (by decide) b2
  generalize dv s2 6 = v3 at *
  generalize dn s2 6 = s3 at *
  obtain ⟨y, my, hy⟩ := at_lt' (xs := [PyData.int 0, .int 1, .int 2, .int 3, .int 9, .int v2]) d3.1 (by show _ < ((6 : Nat) : Int); exact d3.2)
  obtain ⟨z, rfl, hz⟩ : ∃ z : Int, y = .int z ∧ 0 ≤ z ∧ z ≤ 49 := by
    simp only [List.mem_cons, List.not_mem_nil, or_false] at my
    rcases my with rfl | rfl | rfl | rfl | rfl | rfl
    · exact ⟨_, rfl, by omega, by omega⟩
    · exact ⟨_, rfl, by omega, by omega⟩
    · exact ⟨_, rfl, by omega, by omega⟩
    · exact ⟨_, rfl, by omega, by omega⟩
    · exact ⟨_, rfl, by omega, by omega⟩
    · exact ⟨_, rfl, by omega, by omega⟩
  refine ⟨v1, z, s3, ?_, d1, hz, b3⟩
  have hy' : ixD (.list [.int 0, .int 1, .int 2, .int 3, .int 9, .int v2]) v3 = some (.int z) := hy
  refine xs_e' ((e_call (es_cons rfl (es_cons rfl es_nil))).trans c1) (xs_e' (e_ix (e_disp (es_cons rfl (es_cons rfl (es_cons rfl (es_cons rfl (es_cons rfl (es_cons ((e_call (es_cons rfl (es_cons rfl es_nil))).trans c2) es_nil)))))) rfl (Nat.le_of_ble_eq_true rfl)) ((e_call (es_cons rfl (es_cons rfl es_nil))).trans c3) hy') xs_nil)
/-- a load is drawn -/
theorem load35 {K N n : Nat} {s : S3} {cs : List PyData} {w z : Int} {c d e f : Sl} (b : Bd N s) (hN : N ≤ 800000) (hz : 0 ≤ z ∧ z ≤ 49) : ∃ v s', evE (Cf84 (K + 1)) (GT gs) (.tup [.cst (.str "load"), .ix (.ofL (.disp [.cst (.int 0), .cst (.int 1), .cst (.int 996), .call 31 [.var 0, .cst (.int 997)]])) (.call 31 [.var 0, .cst (.int 4)]), .var 6]) (En35 hp.length n cs c d (.v (.d (.int w))) (.v (.d (.int z))) e f) (hp ++ [ob s]) = .ok (.d (enX (.load v z))) (hp ++ [ob s']) ∧ (0 ≤ v ∧ v ≤ 996) ∧ Bd (N + 2) s' := by
  have c1 := p31 (hp := hp) (k := K) (m := 997) b (by omega) (by decide)
  have d1 := dv_rg (s := s) (m := 997) (by decide)
  have b1 := dn_bd (m := 997) (by decide) b
  generalize dv s 997 = v1 at *
  generalize dn s 997 = s1 at *
  have c2 := p31 (hp := hp) (k := K) (m := 4) b1 (by omega) (by decide)
  have d2 := dv_rg (s := s1) (m := 4) (by decide)
  have b2 := dn_bd (m := 4) (by decide) b1
  generalize dv s1 4 = v2 at *
  generalize dn s1 4 = s2 at *
  obtain ⟨y, my, hy⟩ := at_lt' (xs := [PyData.int 0, .int 1, .int 996, .int v1]) d2.1 (by show _ < ((4 : Nat) : Int); exact d2.2)
  obtain ⟨v, rfl, hv⟩ : ∃ v : Int, y = .int v ∧ 0 ≤ v ∧ v ≤ 996 := by
    simp only [List.mem_cons, List.not_mem_nil, or_false] at my
    rcases my with rfl | rfl | rfl | rfl
    · exact ⟨_, rfl, by omega, by omega⟩
    · exact ⟨_, rfl, by omega, by omega⟩
    · exact ⟨_, rfl, by omega, by omega⟩
    · exact ⟨_, rfl, by omega, by omega⟩
  have hy' : ixD (.list [.int 0, .int 1, .int 996, .int v1]) v2 = some (.int v) := hy
  refine ⟨v, s2, ?_, hv, b2⟩
  rw [enX]
  exact e_tup (es_cons rfl (es_cons (e_ix (e_disp (es_cons rfl (es_cons rfl (es_cons rfl (es_cons ((e_call (es_cons rfl (es_cons rfl es_nil))).trans c1) es_nil)))) rfl (Nat.le_of_ble_eq_true rfl)) ((e_call (es_cons rfl (es_cons rfl es_nil))).trans c2) hy') (es_cons rfl es_nil))) rfl (Nat.le_of_ble_eq_true rfl)
/-- the parts -/
theorem parts35 {K n D : Nat} {cs : List PyData} {c d e f : Sl} {o : Sl}
    (ih : ∀ (N : Nat) (s : S3), Bd N s → N + D ≤ 800000 → ∃ x s', Cl K 35 [.ref hp.length, .d (.int ((n + 1 : Nat) : Int)), .d (.list cs)] (hp ++ [ob s]) = .ok (.d (enX x)) (hp ++ [ob s']) ∧ Dr (n + 1) x ∧ Bd (N + D) s') :
    ∀ (j : Nat) (lo : Int) (N : Nat) (s : S3), Bd N s → N + D * j ≤ 800000 → ∃ es s', es.length = j ∧ compLoop (.n 8) (evC (Cf84 K) (GT gs) []) (evE (Cf84 K) (GT gs) (.call 35 [.var 0, .bin .Sub (.var 1) (.cst (.int 1)), .var 2])) (En35 hp.length (n + 2) cs o c d e f .no) (rng lo j) (hp ++ [ob s]) = .ok (enXs es) (hp ++ [ob s']) ∧ (∀ x ∈ es, Dr (n + 1) x) ∧ Bd (N + D * j) s'
  | 0, lo, N, s, b, _ => ⟨[], s, rfl, by rw [enXs]; exact comp_nil, fun x m => (List.not_mem_nil m).elim, b⟩
  | j + 1, lo, N, s, b, hN => by
    rw [Nat.mul_succ] at hN
    obtain ⟨x, s1, q, dx, b1⟩ := ih N s b (by omega)
    obtain ⟨es, s2, le, q2, de, b2⟩ := parts35 ih j (lo + 1) (N + D) s1 b1 (by omega)
    refine ⟨x :: es, s2, by rw [List.length_cons, le], ?_, fun y m => ?_, b2.mono (by rw [Nat.mul_succ]; omega)⟩
    · rw [enXs]
      refine comp_next (env' := En35 hp.length (n + 2) cs o c d e f (.v (.d (.int lo)))) rfl ((e_call (es_cons rfl (es_cons (e_bin rfl rfl ?_) (es_cons rfl es_nil)))).trans q) q2
      show some (PyData.int (((n + 2 : Nat) : Int) - 1)) = _
      rw [show ((n + 2 : Nat) : Int) - 1 = ((n + 1 : Nat) : Int) by omega]
    · rcases List.mem_cons.mp m with rfl | m
      · exact dx
      · exact de y m
theorem ops_at {v : Int} (h : 0 ≤ v ∧ v < 4) : ∃ op, L2.atI [PyData.str "add", .str "mul", .str "min", .str "max"] v = some (.str op) ∧ op ∈ ops := by
  obtain ⟨y, my, hy⟩ := at_lt' (xs := [PyData.str "add", .str "mul", .str "min", .str "max"]) h.1 (by show _ < ((4 : Nat) : Int); exact h.2)
  simp only [List.mem_cons, List.not_mem_nil, or_false] at my
  rcases my with rfl | rfl | rfl | rfl
  · exact ⟨_, hy, by decide +kernel⟩
  · exact ⟨_, hy, by decide +kernel⟩
  · exact ⟨_, hy, by decide +kernel⟩
  · exact ⟨_, hy, by decide +kernel⟩
theorem DC_ge (n : Nat) : 10 ≤ DC n := by cases n <;> rw [DC] <;> omega
theorem p35 {cs : List PyData} (hc : Cts cs) : ∀ (n k N : Nat) (s : S3), Bd N s → N + DC n ≤ 800000 → ∃ e s', Cl (k + n + 2) 35 [.ref hp.length, .d (.int ((n + 1 : Nat) : Int)), .d (.list cs)] (hp ++ [ob s]) = .ok (.d (enX e)) (hp ++ [ob s']) ∧ Dr (n + 1) e ∧ Bd (N + DC n) s' := by
  intro n
  induction n with
  | zero =>
    intro k N s b hN
    rw [DC] at hN
    obtain ⟨w, z, s1, q, hw, hz, b1⟩ := head35 (hp := hp) (K := k) (n := 1) (cs := cs) b (by omega)
    obtain ⟨v, s2, q2, hv, b2⟩ := load35 (hp := hp) (K := k) (n := 1) (cs := cs) (w := w) (c := .no) (d := .no) (e := .no) (f := .no) b1 (by omega) hz
    refine ⟨.load v z, s2, ?_, by rw [Dr]; exact ⟨hv, hz⟩, b2.mono (by rw [DC]; omega)⟩
    rw [Cl, call_at φ35' rfl]
    refine fin_end ((s_par q rfl).trans (s_ifT (h1 := hp ++ [ob s1]) (t_orT (t_cmp rfl rfl rfl)) (s_ret q2)))
  | succ n ih =>
    intro k N s b hN
    have hD := DC_ge n
    have hD' : DC (n + 1) = 10 + 3 * DC n := by rw [DC]
    obtain ⟨w, z, s1, q, hw, hz, b1⟩ := head35 (hp := hp) (K := k + n + 1) (n := n + 2) (cs := cs) b (by omega)
    have lt2 : tru (E84 (k + n + 2) (.cmp .Lt (.var 1) (.cst (.int 2))) (En35 hp.length (n + 2) cs .no .no (.v (.d (.int w))) (.v (.d (.int z))) .no .no) (hp ++ [ob s1])) = .ok false (hp ++ [ob s1]) := t_cmp (x := .int ((n + 2 : Nat) : Int)) (y := .int 2) rfl rfl (by show some (decide (((n + 2 : Nat) : Int) < 2)) = _; rw [decide_eq_false (by omega)])
    have wt : ∀ (i : Int) a c' s', tru (E84 (k + n + 2) (.cmp .Lt (.var 5) (.cst (.int i))) (En35 hp.length (n + 2) cs a c' (.v (.d (.int w))) (.v (.d (.int z))) .no .no) (hp ++ [ob s'])) = .ok (decide (w < i)) (hp ++ [ob s']) := fun i a c' s' => t_cmp rfl rfl rfl
    by_cases w2 : w < 2
    · obtain ⟨v, s2, q2, hv, b2⟩ := load35 (hp := hp) (K := k + n + 1) (n := n + 2) (cs := cs) (w := w) (c := .no) (d := .no) (e := .no) (f := .no) b1 (by omega) hz
      refine ⟨.load v z, s2, ?_, by rw [Dr]; exact ⟨hv, hz⟩, b2.mono (by omega)⟩
      rw [show k + (n + 1) + 2 = (k + n + 2) + 1 by omega, Cl, call_at φ35' rfl]
      exact fin_end ((s_par q rfl).trans (s_ifT ((t_orF lt2).trans (t_or1.trans ((wt 2 _ _ _).trans (by rw [decide_eq_true w2])))) (s_ret q2)))
    · have c1 := p31 (hp := hp) (k := k + n + 1) (m := 4) b1 (by omega) (by decide)
      have d1 := dv_rg (s := s1) (m := 4) (by decide)
      have b2 := dn_bd (m := 4) (by decide) b1
      obtain ⟨op, ho, mo⟩ := ops_at d1
      have ho' : ixD (.list [PyData.str "add", .str "mul", .str "min", .str "max"]) (dv s1 4) = some (.str op) := ho
      generalize dn s1 4 = s2 at *
      have pre : ∀ r, evSs (Cf84 (k + n + 2)) (GT gs) 1000 (f35.body.drop 3) (En35 hp.length (n + 2) cs (.v (.d (.str op))) .no (.v (.d (.int w))) (.v (.d (.int z))) .no .no) (hp ++ [ob s2]) = r → evSs (Cf84 (k + n + 2)) (GT gs) 1000 f35.body (En35 hp.length (n + 2) cs .no .no .no .no .no .no) (hp ++ [ob s]) = r := fun r hr =>
        (s_par q rfl).trans ((s_ifF ((t_orF lt2).trans (t_or1.trans ((wt 2 _ _ _).trans (by rw [decide_eq_false w2]))))).trans ((s_asg (e_ix (e_disp (es_cons rfl (es_cons rfl (es_cons rfl (es_cons rfl es_nil)))) rfl (Nat.le_of_ble_eq_true rfl)) ((e_call (es_cons rfl (es_cons rfl es_nil))).trans c1) ho') rfl).trans hr))
      by_cases w6 : w < 6
      · have c2 := p31 (hp := hp) (k := k + n + 1) (m := 3) b2 (by omega) (by decide)
        have d2 := dv_rg (s := s2) (m := 3) (by decide)
        have b3 := dn_bd (m := 3) (by decide) b2
        generalize dv s2 3 = v2 at *
        generalize dn s2 3 = s3 at *
        obtain ⟨j, hj⟩ : ∃ j : Nat, 1 + v2 = (j : Int) := ⟨(1 + v2).toNat, by omega⟩
        have hD3 : DC n * j ≤ DC n * 3 := Nat.mul_le_mul_left _ (by omega)
        obtain ⟨es, s4, le, q4, de, b4⟩ := parts35 (hp := hp) (K := k + n + 2) (n := n) (D := DC n) (cs := cs) (o := .v (.d (.str op))) (c := .no) (d := .v (.d (.int w))) (e := .v (.d (.int z))) (f := .no) (fun N s b h => ih k N s b h) j 0 (N + 3 + 1 + 1) s3 b3 (by omega)
        refine ⟨.app op es z, s4, ?_, by rw [Dr]; exact ⟨mo, by omega, de, hz⟩, b4.mono (by omega)⟩
        rw [show k + (n + 1) + 2 = (k + n + 2) + 1 by omega, Cl, call_at φ35' rfl]
        refine fin_end (pre _ ?_)
        refine s_ifT ((wt 6 _ _ _).trans (by rw [decide_eq_true w6])) ?_
        have cl : evL (Cf84 (k + n + 2)) (GT gs) (.comp (.call 35 [.var 0, .bin .Sub (.var 1) (.cst (.int 1)), .var 2]) (.n 8) .range1 [.bin .Add (.cst (.int 1)) (.call 31 [.var 0, .cst (.int 3)])] []) (En35 hp.length (n + 2) cs (.v (.d (.str op))) .no (.v (.d (.int w))) (.v (.d (.int z))) .no .no) (hp ++ [ob s2]) = .ok (enXs es) (hp ++ [ob s4]) := by
          refine l_compI (items := rng 0 j) (es_cons (e_bin rfl ((e_call (es_cons rfl (es_cons rfl es_nil))).trans c2) rfl) es_nil) ?_ ?_ q4
          · rw [hj]
            show (if -1000000 ≤ (j : Int) ∧ (j : Int) ≤ 1000000 then some (rng 0 (j : Int).toNat) else none) = _
            rw [if_pos (by omega), Int.toNat_natCast]
          · have : ∀ (j : Nat) (lo : Int), (rng lo j).length = j := fun j => by
              induction j with
              | zero => intro lo; rfl
              | succ j ih => intro lo; rw [rng, List.length_cons, ih]
            rw [this]
            exact Nat.le_trans (show j ≤ 3 by omega) (Nat.le_of_ble_eq_true rfl)
        refine (s_own cl).trans ((s_step rfl).trans (s_ret ?_))
        rw [enX]
        exact e_tup (es_cons rfl (es_cons rfl (es_cons (e_bi (es_cons rfl es_nil) rfl rfl) (es_cons rfl es_nil)))) rfl (Nat.le_of_ble_eq_true rfl)
      · have c2 := p31 (hp := hp) (k := k + n + 1) (m := cs.length) b2 (by omega) (by have := hc.1; omega)
        have d2 := dv_rg (s := s2) (m := cs.length) (by have := hc.1; omega)
        have b3 := dn_bd (m := cs.length) (by have := hc.1; omega) b2
        generalize dv s2 cs.length = v2 at *
        generalize dn s2 cs.length = s3 at *
        obtain ⟨y, my, hy⟩ := at_lt' d2.1 d2.2
        obtain ⟨c, rfl, hcc⟩ := hc.2 y my
        have hy' : ixD (.list cs) v2 = some (.int c) := hy
        obtain ⟨x, s4, q4, dx, b4⟩ := ih k (N + 3 + 1 + 1) s3 b3 (by omega)
        have mw : w % 2 = 0 ∨ w % 2 = 1 := by omega
        have fin35 : ∀ wd : Str, ixD (.list [PyData.str "each", .str "fold"]) (w % 2) = some (.str wd) → evSs (Cf84 (k + n + 2)) (GT gs) 1000 f35.body (En35 hp.length (n + 2) cs .no .no .no .no .no .no) (hp ++ [ob s]) = .ok (.rt (.d (.tuple [.str wd, .str op, .int c, enX x, .int z]))) (hp ++ [ob s4]) := fun wd hwd => by
          refine pre _ ((s_ifF ((wt 6 _ _ _).trans (by rw [decide_eq_false w6]))).trans ?_)
          refine (s_asg (e_ix rfl ((e_call (es_cons rfl (es_cons (e_bi (es_cons rfl es_nil) rfl rfl) es_nil))).trans c2) hy') rfl).trans (s_ret ?_)
          refine e_tup (es_cons (e_ix (x := .list [.str "each", .str "fold"]) rfl (e_bin rfl rfl (modB (by decide))) hwd) (es_cons rfl (es_cons rfl (es_cons ((e_call (es_cons rfl (es_cons (e_bin rfl rfl ?_) (es_cons rfl es_nil)))).trans q4) (es_cons rfl es_nil))))) rfl (Nat.le_of_ble_eq_true rfl)
          show some (PyData.int (((n + 2 : Nat) : Int) - 1)) = _
          rw [show ((n + 2 : Nat) : Int) - 1 = ((n + 1 : Nat) : Int) by omega]
        rcases mw with e | e
        · refine ⟨.each op c x z, s4, ?_, by rw [Dr]; exact ⟨mo, hcc, dx, hz⟩, b4.mono (by omega)⟩
          rw [show k + (n + 1) + 2 = (k + n + 2) + 1 by omega, Cl, call_at φ35' rfl, enX]
          exact fin_end (fin35 "each" (by rw [e]; exact at_0))
        · refine ⟨.fold op c x z, s4, ?_, by rw [Dr]; exact ⟨mo, hcc, dx, hz⟩, b4.mono (by omega)⟩
          rw [show k + (n + 1) + 2 = (k + n + 2) + 1 by omega, Cl, call_at φ35' rfl, enX]
          exact fin_end (fin35 "fold" (by rw [e]; exact at_1))
end Tx
namespace Tx
open PySem Mi
variable {hp : Sh}
theorem comp_none {C : Nat → List Vl → Sh → R Vl} {G : Nat → Option PyData} {tg : Tg} {cond : En → Sh → R Bool} {elt : En → Sh → R Vl} {env : En} : ∀ (xs : List PyData) {h : Sh}, (∀ x ∈ xs, ∃ env', bindTg tg (.d x) env = some env' ∧ cond env' h = .ok false h) → compLoop tg cond elt env (xs.map .d) h = .ok [] h
  | [], h, _ => comp_nil
  | x :: xs, h, q => by
    obtain ⟨env', e1, e2⟩ := q x List.mem_cons_self
    have ih := comp_none (C := C) (G := G) (elt := elt) xs fun y m => q y (List.mem_cons_of_mem _ m)
    rw [List.map_cons, compLoop, e1]
    simp only [e2, noEx, b_ok, Bool.false_eq_true, if_false, ih]
def body6 : List Ts := [.asg (.n 6) (.ite (.cmp .Lt (.var 5) (.cst (.int 2))) (.call 34 [.var 2, .var 4, .cst (.int 6)]) (.call 33 [.var 2])), .iff (.not (.ite (.call 19 [.var 6]) (.call 41 [.var 6]) (.call 42 [.var 6]))) [.ret (.cst (.bool false))] []]
abbrev En43 (ns : List Int) (L : Nat) (s1 s3 s4 s5 s6 s7 : Sl) : En := [.v (.scr ns), s1, .v (.ref L), s3, s4, s5, s6, s7]
theorem judge {K : Nat} {h : Sh} {env : En} {d : PyData} (hv : E84 (K + 50) (.var 6) env h = .ok (.d d) h) : tru (E84 (K + 50) (.not (.ite (.call 19 [.var 6]) (.call 41 [.var 6]) (.call 42 [.var 6]))) env h) = .ok false h := by
  have t : tru (E84 (K + 50) (.call 19 [.var 6]) env h) = .ok (exOf d).isSome h := t_b ((e_call (es_cons hv es_nil)).trans (p19 (k := K + 4)))
  refine t_nF (t_b ((e_ite t).trans ?_))
  cases he : exOf d with
  | none => exact (if_neg Bool.false_ne_true).trans ((e_call (es_cons hv es_nil)).trans (p42 (k := K) he))
  | some e => exact (if_pos rfl).trans ((e_call (es_cons hv es_nil)).trans (p41 (k := K) he))
theorem turn6 {ns : List Int} {N : Nat} {s : S3} {e : Ex} {i : Int} {s1 s3 s6 s7 : Sl} (w : WF e) (b : Bd N s) (hN : N ≤ 700000) :
    ∃ d s', evSs (Cf84 99) (GT gs) 1000 body6 (En43 ns hp.length s1 s3 (.v (.d (enX e))) (.v (.d (.int i))) s6 s7) (hp ++ [ob s]) = .ok (.nx (En43 ns hp.length s1 s3 (.v (.d (enX e))) (.v (.d (.int i))) (.v (.d d)) s7)) (hp ++ [ob s']) ∧ Bd (N + 20) s' := by
  have t : tru (E84 99 (.cmp .Lt (.var 5) (.cst (.int 2))) (En43 ns hp.length s1 s3 (.v (.d (enX e))) (.v (.d (.int i))) s6 s7) (hp ++ [ob s])) = .ok (decide (i < 2)) (hp ++ [ob s]) := t_cmp rfl rfl rfl
  have goal : ∀ d s', evE (Cf84 99) (GT gs) (.ite (.cmp .Lt (.var 5) (.cst (.int 2))) (.call 34 [.var 2, .var 4, .cst (.int 6)]) (.call 33 [.var 2])) (En43 ns hp.length s1 s3 (.v (.d (enX e))) (.v (.d (.int i))) s6 s7) (hp ++ [ob s]) = .ok (.d d) (hp ++ [ob s']) → evSs (Cf84 99) (GT gs) 1000 body6 (En43 ns hp.length s1 s3 (.v (.d (enX e))) (.v (.d (.int i))) s6 s7) (hp ++ [ob s]) = .ok (.nx (En43 ns hp.length s1 s3 (.v (.d (enX e))) (.v (.d (.int i))) (.v (.d d)) s7)) (hp ++ [ob s']) := fun d s' q =>
    (s_asg q rfl).trans ((s_ifF (judge (K := 49) (d := d) rfl)).trans (by rw [evSs]; rfl))
  by_cases c : i < 2
  · obtain ⟨d, s', q, b'⟩ := p34 (hp := hp) 6 90 N s (enX e) (okdX e w) b (by omega)
    exact ⟨d, s', goal d s' ((e_ite t).trans ((if_pos (decide_eq_true c)).trans ((e_call (es_cons rfl (es_cons rfl (es_cons rfl es_nil)))).trans q))), b'.mono (by omega)⟩
  · obtain ⟨d, q⟩ := p33 (hp := hp) (k := 97) b (by omega)
    exact ⟨d, _, goal d _ ((e_ite t).trans ((if_neg (by rw [decide_eq_false c]; exact Bool.false_ne_true)).trans ((e_call (es_cons rfl es_nil)).trans q))), (dn_bd (m := 21) (by decide) b).mono (by omega)⟩
def body3 : List Ts := [.asg (.n 4) (.call 35 [.var 2, .cst (.int 4), .var 3]), .iff (.not (.call 41 [.var 4])) [.ret (.cst (.bool false))] [], .for (.n 5) .range1 [.cst (.int 3)] body6]
theorem turn3 {ns : List Int} {N : Nat} {s : S3} {cs : List PyData} {s1 s4 s5 s6 s7 : Sl} (hc : Cts cs) (b : Bd N s) (hN : N ≤ 600000) :
    ∃ t4 t5 t6 s', evSs (Cf84 99) (GT gs) 1000 body3 (En43 ns hp.length s1 (.v (.d (.list cs))) s4 s5 s6 s7) (hp ++ [ob s]) = .ok (.nx (En43 ns hp.length s1 (.v (.d (.list cs))) t4 t5 t6 s7)) (hp ++ [ob s']) ∧ Bd (N + 500) s' := by
  have hD : DC 3 = 400 := by decide
  obtain ⟨e, sa, q, de, ba⟩ := p35 (hp := hp) hc 3 94 N s b (by omega)
  have w := dr_wf _ _ de
  have x := dr_ex de (by decide)
  obtain ⟨d0, sb, q0, bb⟩ := turn6 (hp := hp) (ns := ns) (i := 0) (s1 := s1) (s3 := .v (.d (.list cs))) (s6 := s6) (s7 := s7) w ba (by omega)
  obtain ⟨d1, sc, q1, bc⟩ := turn6 (hp := hp) (ns := ns) (i := 1) (s1 := s1) (s3 := .v (.d (.list cs))) (s6 := .v (.d d0)) (s7 := s7) w bb (by omega)
  obtain ⟨d2, sd, q2, bd⟩ := turn6 (hp := hp) (ns := ns) (i := 2) (s1 := s1) (s3 := .v (.d (.list cs))) (s6 := .v (.d d1)) (s7 := s7) w bc (by omega)
  refine ⟨.v (.d (enX e)), .v (.d (.int 2)), .v (.d d2), sd, ?_, bd.mono (by omega)⟩
  have loop : forLoop (evSs (Cf84 99) (GT gs) 1000 body6) (.n 5) [.d (.int 0), .d (.int 1), .d (.int 2)] (En43 ns hp.length s1 (.v (.d (.list cs))) (.v (.d (enX e))) s5 s6 s7) (hp ++ [ob sa]) = .ok (.nx (En43 ns hp.length s1 (.v (.d (.list cs))) (.v (.d (enX e))) (.v (.d (.int 2))) (.v (.d d2)) s7)) (hp ++ [ob sd]) :=
    fl_next rfl q0 (fl_next rfl q1 (fl_next rfl q2 fl_nil))
  have q41 : tru (E84 99 (.not (.call 41 [.var 4])) (En43 ns hp.length s1 (.v (.d (.list cs))) (.v (.d (enX e))) s5 s6 s7) (hp ++ [ob sa])) = .ok false (hp ++ [ob sa]) := t_nF (t_b ((e_call (es_cons rfl es_nil)).trans (p41 (k := 49) x)))
  exact (s_asg ((e_call (es_cons rfl (es_cons rfl (es_cons rfl es_nil)))).trans q) rfl).trans ((s_ifF q41).trans ((s_for rfl rfl loop).trans (by rw [evSs])))
def body1 : List Ts := [.asg (.n 2) (.call 30 [.var 0, .var 1]), .for (.n 3) .seq [.tup [.ofL (.disp [.cst (.int 1), .cst (.int 2), .cst (.int 3)]), .ofL (.disp [.cst (.int 1), .cst (.int 2), .bin .Pow (.cst (.int 10)) (.cst (.int 9)), .bin .Add (.cst (.int 1)) (.call 32 [.var 2, .bin .Pow (.cst (.int 10)) (.cst (.int 9))])])]] body3]
theorem cts1 : Cts [.int 1, .int 2, .int 3] := by
  refine ⟨⟨by decide, by decide⟩, fun x m => ?_⟩
  simp only [List.mem_cons, List.not_mem_nil, or_false] at m
  rcases m with rfl | rfl | rfl
  · exact ⟨_, rfl, by decide, by decide⟩
  · exact ⟨_, rfl, by decide, by decide⟩
  · exact ⟨_, rfl, by decide, by decide⟩
theorem cts2 {v : Int} (h : 0 ≤ v ∧ v < 1000000000) : Cts [.int 1, .int 2, .int 1000000000, .int (1 + v)] := by
  refine ⟨⟨by simp, by simp⟩, fun x m => ?_⟩
  simp only [List.mem_cons, List.not_mem_nil, or_false] at m
  rcases m with rfl | rfl | rfl | rfl
  · exact ⟨_, rfl, by decide, by decide⟩
  · exact ⟨_, rfl, by decide, by decide⟩
  · exact ⟨_, rfl, by decide, by decide⟩
  · exact ⟨_, rfl, by omega, by omega⟩
theorem turn1 {ns : List Int} {a : Nat} {s2 s3 s4 s5 s6 s7 : Sl} (ha : a < 1000) :
    ∃ L t3 t4 t5 t6 h', evSs (Cf84 99) (GT gs) 1000 body1 [.v (.scr ns), .v (.d (.int a)), s2, s3, s4, s5, s6, s7] hp = .ok (.nx (En43 ns L (.v (.d (.int a))) t3 t4 t5 t6 s7)) h' := by
  obtain ⟨s, q, b⟩ := p30 (hp := hp) (k := 98) (ns := ns) ha
  obtain ⟨sa, v, q32, hv, ba⟩ := p32 (hp := hp) (k := 97) (m := 1000000000) b (by omega) (by decide)
  obtain ⟨t4, t5, t6, sb, qa, bb⟩ := turn3 (hp := hp) (ns := ns) (s1 := .v (.d (.int a))) (s4 := s4) (s5 := s5) (s6 := s6) (s7 := s7) cts1 ba (by omega)
  obtain ⟨u4, u5, u6, sc, qb, bc⟩ := turn3 (hp := hp) (ns := ns) (s1 := .v (.d (.int a))) (s4 := t4) (s5 := t5) (s6 := t6) (s7 := s7) (cts2 hv) bb (by omega)
  refine ⟨hp.length, .v (.d (.list [.int 1, .int 2, .int 1000000000, .int (1 + v)])), u4, u5, u6, hp ++ [ob sc], ?_⟩
  refine (s_asg ((e_call (es_cons rfl (es_cons rfl es_nil))).trans q) rfl).trans ?_
  have loop : forLoop (evSs (Cf84 99) (GT gs) 1000 body3) (.n 3) [.d (.list [.int 1, .int 2, .int 3]), .d (.list [.int 1, .int 2, .int 1000000000, .int (1 + v)])] (En43 ns hp.length (.v (.d (.int a))) s3 s4 s5 s6 s7) (hp ++ [ob sa]) = .ok (.nx (En43 ns hp.length (.v (.d (.int a))) (.v (.d (.list [.int 1, .int 2, .int 1000000000, .int (1 + v)]))) u4 u5 u6 s7)) (hp ++ [ob sc]) :=
    fl_next rfl qa (fl_next rfl qb fl_nil)
  refine (s_for (es_cons (e_tup (es_cons rfl (es_cons (e_disp (es_cons rfl (es_cons rfl (es_cons ev9 (es_cons (e_bin rfl ((e_call (es_cons rfl (es_cons ev9 es_nil))).trans q32) rfl) es_nil)))) rfl (Nat.le_of_ble_eq_true rfl)) es_nil)) rfl (Nat.le_of_ble_eq_true rfl)) es_nil) rfl loop).trans ?_
  rw [evSs]
theorem loop1 {ns : List Int} : ∀ (j a : Nat) (hp : Sh) (s1 s2 s3 s4 s5 s6 s7 : Sl), a + j ≤ 1000 → ∃ t1 t2 t3 t4 t5 t6 h', forLoop (evSs (Cf84 99) (GT gs) 1000 body1) (.n 1) (rng a j) [.v (.scr ns), s1, s2, s3, s4, s5, s6, s7] hp = .ok (.nx [.v (.scr ns), t1, t2, t3, t4, t5, t6, s7]) h'
  | 0, a, hp, s1, s2, s3, s4, s5, s6, s7, _ => ⟨s1, s2, s3, s4, s5, s6, hp, fl_nil⟩
  | j + 1, a, hp, s1, s2, s3, s4, s5, s6, s7, h => by
    obtain ⟨L, t3, t4, t5, t6, h', q⟩ := turn1 (hp := hp) (ns := ns) (a := a) (s2 := s2) (s3 := s3) (s4 := s4) (s5 := s5) (s6 := s6) (s7 := s7) (by omega)
    obtain ⟨u1, u2, u3, u4, u5, u6, h'', q2⟩ := loop1 j (a + 1) h' (.v (.d (.int a))) (.v (.ref L)) t3 t4 t5 t6 s7 (by omega)
    exact ⟨u1, u2, u3, u4, u5, u6, h'', fl_next rfl q q2⟩
theorem φ43' : ΦT ds 43 = some f43 := rfl
theorem law_ok : ∀ ns : List Int, ns.length ≤ 63 → ∃ hq, callF (ΦT ds) (GT gs) 1000 100 43 [.scr ns] [] = .ok (.d (.bool true)) hq := by
  intro ns hns
  obtain ⟨j, hj, lj⟩ : ∃ j : Nat, (if (if (ns.length : Int) < 8 then (ns.length : Int) else 8) > 1 then (if (ns.length : Int) < 8 then (ns.length : Int) else 8) else 1) = (j : Int) ∧ j ≤ 8 := by
    by_cases c : (ns.length : Int) < 8
    · rw [if_pos c]
      by_cases d : (ns.length : Int) > 1
      · rw [if_pos d]; exact ⟨ns.length, rfl, by omega⟩
      · rw [if_neg d]; exact ⟨1, rfl, by omega⟩
    · rw [if_neg c, if_pos (by decide)]; exact ⟨8, rfl, by omega⟩
  obtain ⟨t1, t2, t3, t4, t5, t6, h', q⟩ := loop1 (ns := ns) j 0 [] .no .no .no .no .no .no .no (by omega)
  refine ⟨h', ?_⟩
  rw [call_at φ43' rfl]
  refine fin_end ?_
  have r : E84 99 (.bi .max [.cst (.int 1), .bi .min [.cst (.int 8), .bi .len [.var 0]]]) [.v (.scr ns), .no, .no, .no, .no, .no, .no, .no] [] = .ok (.d (.int j)) [] := by
    rw [← hj]
    exact e_bi (es_cons rfl (es_cons (e_bi (es_cons rfl (es_cons rfl es_nil)) rfl rfl) es_nil)) rfl rfl
  refine (s_for (es_cons r es_nil) (items := rng 0 j) ?_ q).trans (s_ret ?_)
  · show (if -1000000 ≤ (j : Int) ∧ (j : Int) ≤ 1000000 then some (rng 0 (j : Int).toNat) else none) = _
    rw [if_pos (by omega), Int.toNat_natCast]
  · have c39 := p39 (h := h') (k := 98)
    have cn := comp_none (C := Cf84 99) (G := GT gs) (tg := .n 7) (cond := evC (Cf84 99) (GT gs) [.not (.call 42 [.var 7])]) (elt := evE (Cf84 99) (GT gs) (.var 7)) (env := [.v (.scr ns), t1, t2, t3, t4, t5, t6, .no]) beyond (h := h') fun x m => by
      refine ⟨_, rfl, ?_⟩
      have e0 : evE (Cf84 99) (GT gs) (.not (.call 42 [.var 7])) [.v (.scr ns), t1, t2, t3, t4, t5, t6, .v (.d x)] h' = .ok (.d (.bool false)) h' := e_not (v := true) (t_b ((e_call (es_cons rfl es_nil)).trans (p42 (k := 49) (beyond_no x m))))
      show evC (Cf84 99) (GT gs) [.not (.call 42 [.var 7])] [.v (.scr ns), t1, t2, t3, t4, t5, t6, .v (.d x)] h' = _
      rw [evC, e0]
      rfl
    have cl : evE (Cf84 99) (GT gs) (.ofL (.comp (.var 7) (.n 7) .seq [.call 39 []] [.not (.call 42 [.var 7])])) [.v (.scr ns), t1, t2, t3, t4, t5, t6, .no] h' = .ok (.d (.list [])) h' := by
      have e1 : evEs (Cf84 99) (GT gs) [.call 39 []] [.v (.scr ns), t1, t2, t3, t4, t5, t6, .no] h' = .ok [.d (.list beyond)] h' := es_cons ((e_call es_nil).trans c39) es_nil
      rw [evE, evL, e1, b_ok]
      show ((if (beyond.map Vl.d).length ≤ SZ then _ else R.no) : R (List PyData)).bind _ = _
      rw [if_pos (by decide +kernel)]
      show (compLoop _ _ _ _ _ _ : R (List PyData)).bind _ = _
      refine (congrArg (fun r => R.bind r _) cn).trans ?_
      rfl
    exact e_cmp cl rfl rfl
end Tx
open PySem PySem.W PyProof.Rows
set_option maxHeartbeats 0 in
theorem PySem.Challenge.cw_roomprofile_k84_jobs_and_values_of_expre_holds : PySem.Challenge.rw_roomprofile_k84_jobs_and_values_of_expre.Holds := by
  w_on; o_law; k_head; (case hw => w_witness2)
  k_fill
  refine Mi.walk_me (l := PySem.Challenge.rw_roomprofile_k84_jobs_and_values_of_expre) (n := 63) (k := 100) (i := 43) (x := "_law_script") (fld := fun _ => none) (tb := Tx.tb) (Φ := Mi.ΦT Tx.ds) (G := Mi.GT Tx.gs) (W := 1000) (pz := Mi.pzT Tx.ds) rfl (by decide) rfl ⟨rfl, by decide, by decide⟩ rfl ?F rfl Tx.law_ok
  case F =>
    intro w mg h Y N
    have KX := PySem.W.kIn_of Y
    refine ⟨_, _, KX, fun base _ => Mi.prOk KX N rfl rfl (Mi.clsT (cs := Tx.csl) (l := Tx.sbl) KX N rfl rfl rfl ?uC) Tx.defC ?uD ?uG ?uZ⟩
    case uD =>
      refine' Tx.defK ?d0 ?d1 ?d2 ?d3 ?d4 ?d5 ?d6 ?d7 ?d8 ?d9 ?d10 ?d11 ?d12 ?d13 ?d14 ?d15 ?d16 ?d17 ?d18 ?d19 ?d20 ?d21 ?d22 ?d23 ?d24 ?d25 ?d26 ?d27 ?d28 ?d29 ?d30 ?d31 ?d32 ?d33 ?d34 ?d35 ?d36 ?d37 ?d38 ?d39 ?d40 ?d41 ?d42 ?d43
      (case d0 => (refine' Mi.DK.of ?w1 ?w2 ?w3 ?w4; (case w1 => k_is); (case w2 => k_is); (case w3 => k_is); (case w4 => k_is)))
      (case d1 => (refine' Mi.DK.of ?w1 ?w2 ?w3 ?w4; (case w1 => k_is); (case w2 => k_is); (case w3 => k_is); (case w4 => k_is)))
      (case d2 => (refine' Mi.DK.of ?w1 ?w2 ?w3 ?w4; (case w1 => k_is); (case w2 => k_is); (case w3 => k_is); (case w4 => k_is)))
      (case d3 => (refine' Mi.DK.of ?w1 ?w2 ?w3 ?w4; (case w1 => k_is); (case w2 => k_is); (case w3 => k_is); (case w4 => k_is)))
      (case d4 => (refine' Mi.DK.of ?w1 ?w2 ?w3 ?w4; (case w1 => k_is); (case w2 => k_is); (case w3 => k_is); (case w4 => k_is)))
      (case d5 => (refine' Mi.DK.of ?w1 ?w2 ?w3 ?w4; (case w1 => k_is); (case w2 => k_is); (case w3 => k_is); (case w4 => k_is)))
      (case d6 => (refine' Mi.DK.of ?w1 ?w2 ?w3 ?w4; (case w1 => k_is); (case w2 => k_is); (case w3 => k_is); (case w4 => k_is)))
      (case d7 => (refine' Mi.DK.of ?w1 ?w2 ?w3 ?w4; (case w1 => k_is); (case w2 => k_is); (case w3 => k_is); (case w4 => k_is)))
      (case d8 => (refine' Mi.DK.of ?w1 ?w2 ?w3 ?w4; (case w1 => k_is); (case w2 => k_is); (case w3 => k_is); (case w4 => k_is)))
      (case d9 => (refine' Mi.DK.of ?w1 ?w2 ?w3 ?w4; (case w1 => k_is); (case w2 => k_is); (case w3 => k_is); (case w4 => k_is)))
      (case d10 => (refine' Mi.DK.of ?w1 ?w2 ?w3 ?w4; (case w1 => k_is); (case w2 => k_is); (case w3 => k_is); (case w4 => k_is)))
      (case d11 => (refine' Mi.DK.of ?w1 ?w2 ?w3 ?w4; (case w1 => k_is); (case w2 => k_is); (case w3 => k_is); (case w4 => k_is)))
      (case d12 => (refine' Mi.DK.of ?w1 ?w2 ?w3 ?w4; (case w1 => k_is); (case w2 => k_is); (case w3 => k_is); (case w4 => k_is)))
      (case d13 => (refine' Mi.DK.of ?w1 ?w2 ?w3 ?w4; (case w1 => k_is); (case w2 => k_is); (case w3 => k_is); (case w4 => k_is)))
      (case d14 => (refine' Mi.DK.of ?w1 ?w2 ?w3 ?w4; (case w1 => k_is); (case w2 => k_is); (case w3 => k_is); (case w4 => k_is)))
      (case d15 => (refine' Mi.DK.of ?w1 ?w2 ?w3 ?w4; (case w1 => k_is); (case w2 => k_is); (case w3 => k_is); (case w4 => k_is)))
      (case d16 => (refine' Mi.DK.of ?w1 ?w2 ?w3 ?w4; (case w1 => k_is); (case w2 => k_is); (case w3 => k_is); (case w4 => k_is)))
      (case d17 => (refine' Mi.DK.of ?w1 ?w2 ?w3 ?w4; (case w1 => k_is); (case w2 => k_is); (case w3 => k_is); (case w4 => k_is)))
      (case d18 => (refine' Mi.DK.of ?w1 ?w2 ?w3 ?w4; (case w1 => k_is); (case w2 => k_is); (case w3 => k_is); (case w4 => k_is)))
      (case d19 => (refine' Mi.DK.of ?w1 ?w2 ?w3 ?w4; (case w1 => k_is); (case w2 => k_is); (case w3 => k_is); (case w4 => k_is)))
      (case d20 => (refine' Mi.DK.of ?w1 ?w2 ?w3 ?w4; (case w1 => k_is); (case w2 => k_is); (case w3 => k_is); (case w4 => k_is)))
      (case d21 => (refine' Mi.DK.of ?w1 ?w2 ?w3 ?w4; (case w1 => k_is); (case w2 => k_is); (case w3 => k_is); (case w4 => k_is)))
      (case d22 => (refine' Mi.DK.of ?w1 ?w2 ?w3 ?w4; (case w1 => k_is); (case w2 => k_is); (case w3 => k_is); (case w4 => k_is)))
      (case d23 => (refine' Mi.DK.of ?w1 ?w2 ?w3 ?w4; (case w1 => k_is); (case w2 => k_is); (case w3 => k_is); (case w4 => k_is)))
      (case d24 => (refine' Mi.DK.of ?w1 ?w2 ?w3 ?w4; (case w1 => k_is); (case w2 => k_is); (case w3 => k_is); (case w4 => k_is)))
      (case d25 => (refine' Mi.DK.of ?w1 ?w2 ?w3 ?w4; (case w1 => k_is); (case w2 => k_is); (case w3 => k_is); (case w4 => k_is)))
      (case d26 => (refine' Mi.DK.of ?w1 ?w2 ?w3 ?w4; (case w1 => k_is); (case w2 => k_is); (case w3 => k_is); (case w4 => k_is)))
      (case d27 => (refine' Mi.DK.of ?w1 ?w2 ?w3 ?w4; (case w1 => k_is); (case w2 => k_is); (case w3 => k_is); (case w4 => k_is)))
      (case d28 => (refine' Mi.DK.of ?w1 ?w2 ?w3 ?w4; (case w1 => k_is); (case w2 => k_is); (case w3 => k_is); (case w4 => k_is)))
      (case d29 => (refine' Mi.DK.of ?w1 ?w2 ?w3 ?w4; (case w1 => k_is); (case w2 => k_is); (case w3 => k_is); (case w4 => k_is)))
      (case d30 => (refine' Mi.DK.of ?w1 ?w2 ?w3 ?w4; (case w1 => k_is); (case w2 => k_is); (case w3 => k_is); (case w4 => k_is)))
      (case d31 => (refine' Mi.DK.of ?w1 ?w2 ?w3 ?w4; (case w1 => k_is); (case w2 => k_is); (case w3 => k_is); (case w4 => k_is)))
      (case d32 => (refine' Mi.DK.of ?w1 ?w2 ?w3 ?w4; (case w1 => k_is); (case w2 => k_is); (case w3 => k_is); (case w4 => k_is)))
      (case d33 => (refine' Mi.DK.of ?w1 ?w2 ?w3 ?w4; (case w1 => k_is); (case w2 => k_is); (case w3 => k_is); (case w4 => k_is)))
      (case d34 => (refine' Mi.DK.of ?w1 ?w2 ?w3 ?w4; (case w1 => k_is); (case w2 => k_is); (case w3 => k_is); (case w4 => k_is)))
      (case d35 => (refine' Mi.DK.of ?w1 ?w2 ?w3 ?w4; (case w1 => k_is); (case w2 => k_is); (case w3 => k_is); (case w4 => k_is)))
      (case d36 => (refine' Mi.DK.of ?w1 ?w2 ?w3 ?w4; (case w1 => k_is); (case w2 => k_is); (case w3 => k_is); (case w4 => k_is)))
      (case d37 => (refine' Mi.DK.of ?w1 ?w2 ?w3 ?w4; (case w1 => k_is); (case w2 => k_is); (case w3 => k_is); (case w4 => k_is)))
      (case d38 => (refine' Mi.DK.of ?w1 ?w2 ?w3 ?w4; (case w1 => k_is); (case w2 => k_is); (case w3 => k_is); (case w4 => k_is)))
      (case d39 => (refine' Mi.DK.of ?w1 ?w2 ?w3 ?w4; (case w1 => k_is); (case w2 => k_is); (case w3 => k_is); (case w4 => k_is)))
      (case d40 => (refine' Mi.DK.of ?w1 ?w2 ?w3 ?w4; (case w1 => k_is); (case w2 => k_is); (case w3 => k_is); (case w4 => k_is)))
      (case d41 => (refine' Mi.DK.of ?w1 ?w2 ?w3 ?w4; (case w1 => k_is); (case w2 => k_is); (case w3 => k_is); (case w4 => k_is)))
      (case d42 => (refine' Mi.DK.of ?w1 ?w2 ?w3 ?w4; (case w1 => k_is); (case w2 => k_is); (case w3 => k_is); (case w4 => k_is)))
      (case d43 => (refine' Mi.DK.of ?w1 ?w2 ?w3 ?w4; (case w1 => k_is); (case w2 => k_is); (case w3 => k_is); (case w4 => k_is)))
    case uC => kernel_rfl
    case uG => kernel_rfl
    case uZ => kernel_rfl
