import PyProof.Rows.All
import Wide.All
import OpenK.AllK
import Wide.FinOn
import HandS.ForMost
import HandS.Lambda
import KE.KeyNested
import PyProof.DictRoadsH
import HandS.Deep
import HandS.TupAny
import HandS.Style
import HandS.List
import PyProof.ListMulAny
import HandS.Wide
import HandS.IsInst
import HandS.TupLe
import HandS.ExcOwn
import HandS.WordsExc
import HandS.Flow
import KE.KTupSum
import KE.SortData
import HandS.Sort
import KE.DataMinMax
import KE.KDictCopyH
import PyProof.P3Eq
import HandS.Zip
import KE.GoesEnum
import KE.GoesMore
import HandS.SetFor
import HandS.Conv
import HandS.TupSets
import HandS.Strs
import KE.SortKeyHeap
import HandS.NoneIn
import HandS.Iter
import PyProof.MaxThree
import HandS.Defaults
import HandS.Ends
import HandS.HeadEnd
import HandS.Head0
import HandS.Head1
import HandS.Head2
import HandS.HeadHook1
import HandS.HeadHook2
import HandS.HeadHook3
import HandS.HeadHook4
import HandS.HeadWalk
import HandS.NestedK
import PySem.Challenge.RW_meshcore_k31_known_order_types
set_option Elab.async false
set_option linter.all false
set_option maxRecDepth 100000
set_option maxHeartbeats 4000000
/-! Ev0: plain values, a small language of trees, and what its trees compute: plain Lean, no model in sight. -/
namespace Ev
open PySem
/-- values (fz: a list that nobody may write: the script; emp: an empty dict, used for nothing; dic: a dict, its keys and values in turn) -/
inductive D where
  | non | bl (b : Bool) | int (i : Int) | str (x : Str) | tup (ds : List D) | lst (ds : List D) | fz (ds : List D) | emp | dic (ds : List D)
  deriving Inhabited
/-- what a slot holds: a value, or a list (true: a dict) that nobody else knows -/
inductive Sl where
  | val (d : D) | ow (m : Bool) (ds : List D)
abbrev Sl.own (ds : List D) : Sl := .ow false ds
abbrev Sl.dic (ds : List D) : Sl := .ow true ds
abbrev Env := List (Option Sl)
/-- an error: its class (a number of the table), its fields -/
structure Exn where
  cls : Nat
  args : List D
inductive R (a : Type) where
  | ok (x : a) (e : Env) | ex (x : Exn) (e : Env) | no
def R.bind {a b : Type} (x : R a) (f : a → Env → R b) : R b := match x with
  | .ok v e => f v e
  | .ex x e => .ex x e
  | .no => .no
def R.of {a : Type} (o : Option a) (e : Env) : R a := match o with
  | some v => .ok v e
  | none => .no
/-- what a call gives: a value and what the first parameter's own list holds then -/
inductive O where
  | ok (d : D) (cs : List D) | ex (x : Exn) | no
abbrev Call := Nat → List Sl → O
structure Ctx where
  call : Call
  glob : Nat → D
  fuel : Nat

/-! ### values: truth, equality, depth -/
def D.truth : D → Bool
  | .non => false
  | .bl b => b
  | .int i => !(decide (i = 0))
  | .str x => !(x.length == 0)
  | .tup ds => !ds.isEmpty
  | .lst ds => !ds.isEmpty
  | .fz ds => !ds.isEmpty
  | .emp => false
  | .dic ds => !ds.isEmpty
/-- a value's truth, where it is asked here -/
def D.tr : D → Option Bool
  | .str _ => none
  | .emp => none
  | .dic _ => none
  | d => some d.truth
/-- one of two ways, by truth -/
def R.way {a : Type} (x : D) (t f : R a) : R a := match x.tr with
  | some true => t
  | some false => f
  | none => .no
mutual
def D.eqv : D → D → Bool
  | .non, .non => true
  | .bl a, .bl b => a == b
  | .int a, .int b => decide (a = b)
  | .bl a, .int b => decide ((if a = true then (1 : Int) else 0) = b)
  | .int a, .bl b => decide (a = (if b = true then (1 : Int) else 0))
  | .str a, .str b => decide (a = b)
  | .tup as, .tup bs => D.eqvs as bs
  | .lst as, .lst bs => D.eqvs as bs
  | _, _ => false
def D.eqvs : List D → List D → Bool
  | [], [] => true
  | a :: as, b :: bs => D.eqv a b && D.eqvs as bs
  | _, _ => false
end
mutual
/-- depth at most n, plain texts -/
def D.sh : Nat → D → Bool
  | n, .tup ds => D.shs n ds
  | n, .lst ds => D.shs n ds
  | _, .str x => x.cps.all (· < 0x110000)
  | _, .fz _ => false
  | _, .emp => false
  | _, .dic _ => false
  | _, _ => true
def D.shs : Nat → List D → Bool
  | _, [] => true
  | 0, _ :: _ => false
  | n + 1, d :: ds => D.sh n d && D.shs (n + 1) ds
end
mutual
/-- no list that may be written is within -/
def D.flat : D → Bool
  | .tup ds => D.flats ds
  | .lst _ => false
  | .fz ds => D.flats ds
  | .dic _ => false
  | _ => true
def D.flats : List D → Bool
  | [] => true
  | d :: ds => D.flat d && D.flats ds
end
/-- the most that a list may hold here -/
def lim : Nat := 16000000

/-! ### operators -/
inductive Bop where
  | add | sub | mul | fdiv | mod | pow
inductive Cop where
  | eq | ne | lt | le | gt | ge | isN | notN | mem | nmem
def mulOk (i j : Int) : Bool := decide (i.natAbs.log2 + j.natAbs.log2 < 1000000)
/-- a truth value as a number -/
def b01 (b : Bool) : Int := if b = true then 1 else 0
def binop : Bop → D → D → Option D
  | .add, .int i, .int j => some (.int (i + j))
  | .add, .lst a, .lst b => if a.length + b.length ≤ lim then some (.lst (a ++ b)) else none
  | .add, .tup a, .tup b => if a.length + b.length ≤ lim then some (.tup (a ++ b)) else none
  | .sub, .int i, .int j => some (.int (i - j))
  | .add, .bl p, .bl q => some (.int (b01 p + b01 q))
  | .add, .int i, .bl q => some (.int (i + b01 q))
  | .add, .bl p, .int j => some (.int (b01 p + j))
  | .sub, .bl p, .bl q => some (.int (b01 p - b01 q))
  | .sub, .int i, .bl q => some (.int (i - b01 q))
  | .sub, .bl p, .int j => some (.int (b01 p - j))
  | .mul, .int i, .int j => if mulOk i j = true then some (.int (i * j)) else none
  | .mul, .lst a, .int k => if a.length * k.toNat ≤ lim ∧ -(2 ^ 63) ≤ k ∧ k < 2 ^ 63 then some (.lst (List.replicate k.toNat a).flatten) else none
  | .mul, .tup a, .int k => if 2 ≤ k ∧ a ≠ [] ∧ (a.length : Int) * k ≤ 1000 then some (.tup (List.replicate k.toNat a).flatten) else none
  | .fdiv, .int i, .int j => if j = 0 then none else if j.natAbs.log2 < 9000 then some (.int (i.fdiv j)) else none
  | .mod, .int i, .int j => if j = 0 then none else some (.int (i.fmod j))
  | .pow, .int i, .int j => if 0 ≤ j ∧ j ≤ 1000000 ∧ i.natAbs < 2 ^ 64 then some (.int (i ^ j.toNat)) else none
  | _, _, _ => none
def memOf (d : D) : List D → Bool
  | [] => false
  | y :: ys => D.eqv y d || memOf d ys
def intsOf : List D → Option (List Int)
  | [] => some []
  | .int i :: ds => (intsOf ds).map fun is => i :: is
  | _ :: _ => none
/-- rows of ints, from the first pair that differs on -/
def leRow : List Int → List Int → Bool
  | [], _ => true
  | _ :: _, [] => false
  | x :: xs, y :: ys => if x = y then leRow xs ys else decide (x ≤ y)
/-! ### sorting: ints, tuples of ints, tuples of such -/
mutual
/-- a datum as a row of ints -/
def D.toks : D → List Int
  | .int n => [n]
  | .tup ds => D.toksL ds
  | _ => []
def D.toksL : List D → List Int
  | [] => [0]
  | d :: ds => 1 :: (D.toks d ++ D.toksL ds)
end
mutual
/-- the two can be compared, place by place -/
def D.alk : D → D → Bool
  | .int _, .int _ => true
  | .tup xs, .tup ys => D.alks xs ys
  | _, _ => false
def D.alks : List D → List D → Bool
  | x :: xs, y :: ys => D.alk x y && D.alks xs ys
  | [], _ => true
  | _ :: _, [] => true
end
mutual
/-- ints and tuples alone -/
def D.pur : D → Bool
  | .int _ => true
  | .tup xs => D.purs xs
  | _ => false
def D.purs : List D → Bool
  | [] => true
  | x :: xs => D.pur x && D.purs xs
end
def ltTk : List Int → List Int → Bool
  | _, [] => false
  | [], _ :: _ => true
  | x :: xs, y :: ys => if x = y then ltTk xs ys else decide (x < y)
def leD (a b : D) : Bool := !ltTk (D.toks b) (D.toks a)
def insB {a : Type} (le : a → a → Bool) (x : a) : List a → List a
  | [] => [x]
  | y :: ys => if le x y = true then x :: y :: ys else y :: insB le x ys
def srtB {a : Type} (le : a → a → Bool) : List a → List a
  | [] => []
  | x :: xs => insB le x (srtB le xs)
def isTupN : D → Bool
  | .tup (_ :: _) => true
  | _ => false
def isIntD : D → Bool
  | .int _ => true
  | _ => false
/-! ### dicts: keys and values in turn -/
mutual
def D.dp : D → Nat
  | .tup ds => D.dps ds + 1
  | _ => 0
def D.dps : List D → Nat
  | [] => 0
  | d :: ds => max (D.dp d) (D.dps ds)
end
def lookD (k : D) : List D → Option D
  | a :: v :: r => if D.eqv a k = true then some v else lookD k r
  | _ => none
def putD (k x : D) : List D → List D
  | a :: v :: r => if D.eqv a k = true then a :: x :: r else a :: v :: putD k x r
  | _ => [k, x]
def keysD : List D → List D
  | a :: _ :: r => a :: keysD r
  | _ => []
def valsD : List D → List D
  | _ :: v :: r => v :: valsD r
  | _ => []
def itemsD : List D → List D
  | a :: v :: r => .tup [a, v] :: itemsD r
  | _ => []
/-- the key is of the kind of the keys there: ints, or tuples of ints and such -/
def fitD (k : D) (ds : List D) : Bool := match k with
  | .int _ => (keysD ds).all isIntD
  | .tup xs => D.purs xs && (decide (D.dps xs < 8) && (keysD ds).all fun d => !isIntD d)
  | _ => false
/-- what a slot's own is, as a value -/
def unD : Bool → List D → D
  | true, ds => .dic ds
  | false, ds => .lst ds
/-- may be sorted -/
def srtOk (ds : List D) : Bool := D.shs 60 ds && (D.purs ds && ((ds.all fun a => ds.all fun b => D.alk a b) && (ds.all isTupN || ds.all isIntD)))
def sortK (ds : List D) : Option D := if srtOk ds = true ∧ ds.length ≤ lim then some (.lst (srtB leD ds)) else none
/-- a single item is not compared -/
def sortD (ds : List D) : Option D := if srtOk ds = true ∧ ds.length ≤ lim then some (.lst (srtB leD ds)) else if ds.length = 1 then some (.lst ds) else none
def cmpop : Cop → D → D → Option Bool
  | .eq, a, b => if (D.sh 60 a && D.sh 60 b) = true then some (D.eqv a b) else none
  | .ne, a, b => if (D.sh 60 a && D.sh 60 b) = true then some (!D.eqv a b) else none
  | .lt, .int i, .int j => some (decide (i < j))
  | .le, .int i, .int j => some (decide (i ≤ j))
  | .le, .tup xs, .tup ys => match intsOf xs, intsOf ys with
    | some a, some b => some (leRow a b)
    | _, _ => none
  | .gt, .int i, .int j => some (decide (j < i))
  | .ge, .int i, .int j => some (decide (j ≤ i))
  | .isN, a, .non => match a with
    | .non => some true
    | _ => some false
  | .notN, a, .non => match a with
    | .non => some false
    | _ => some true
  | .isN, .bl a, .bl b => some (decide (a = b))
  | .notN, .bl a, .bl b => some (!decide (a = b))
  | .mem, d, .lst ys => if (D.sh 60 d && D.sh 60 (.lst ys)) = true then some (memOf d ys) else none
  | .mem, d, .dic ys => if fitD d ys = true then some (lookD d ys).isSome else none
  | .nmem, d, .dic ys => if fitD d ys = true then some (!(lookD d ys).isSome) else none
  | .mem, d, .tup ys => if (D.sh 60 d && D.sh 60 (.tup ys)) = true then some (memOf d ys) else none
  | .nmem, d, .lst ys => if (D.sh 60 d && D.sh 60 (.lst ys)) = true then some (!memOf d ys) else none
  | .nmem, d, .tup ys => if (D.sh 60 d && D.sh 60 (.tup ys)) = true then some (!memOf d ys) else none
  | _, _, _ => none
/-- the place that an index means -/
def place (n : Nat) (i : Int) : Option Nat := match i with
  | .ofNat k => if k < n then some k else none
  | .negSucc k => if k + 1 ≤ n then some (n - (k + 1)) else none
def at_ (xs : List D) (i : Int) : Option D := (place xs.length i).bind fun k => xs[k]?
def ixop : D → D → Option D
  | .tup xs, .int i => at_ xs i
  | .lst xs, .int i => at_ xs i
  | .fz xs, .int i => at_ xs i
  | .dic ds, k => if fitD k ds = true then lookD k ds else none
  | _, _ => none
/-- an end of a slice -/
def cutAt (n : Nat) (dflt : Nat) : Option Int → Nat
  | none => dflt
  | some (.ofNat k) => min k n
  | some (.negSucc k) => n - (k + 1)
def cutOf {a : Type} (xs : List a) (lo hi : Option Int) : List a :=
  (xs.drop (cutAt xs.length 0 lo)).take (cutAt xs.length xs.length hi - cutAt xs.length 0 lo)
def slop : D → Option Int → Option Int → Option D
  | .tup xs, l, h => some (.tup (cutOf xs l h))
  | .lst xs, l, h => some (.lst (cutOf xs l h))
  | _, _, _ => none
/-- back to front -/
def revop : D → Option D
  | .tup xs => some (.tup xs.reverse)
  | .lst xs => some (.lst xs.reverse)
  | _ => none
/-- the first two, back to front -/
def rev2op : D → Option D
  | .tup (x :: y :: _) => some (.tup [y, x])
  | _ => none
/-! ### built-ins -/
inductive Prim where
  | len | abs | int | tuple | list | sum | min1 | max1 | sorted | isInt | isBool | isTup | isLst | isStr | isSeq
inductive Prim2 where
  | min2 | max2
inductive Frm where
  | lset | lrng | sset | trng
def prim2 : Prim2 → D → D → Option D
  | .min2, .int i, .int j => some (.int (if j < i then j else i))
  | .max2, .int i, .int j => some (.int (if j > i then j else i))
  | _, _, _ => none
def leastOf : List Int → Int → Int
  | [], m => m
  | i :: is, m => leastOf is (if i < m then i else m)
def mostOf : List Int → Int → Int
  | [], m => m
  | i :: is, m => mostOf is (if m < i then i else m)
/-- the least of a row, the first of equal ones -/
def leastD : List D → D → D
  | [], m => m
  | d :: ds, m => leastD ds (if leD m d = true then m else d)
def minK (ds : List D) : Option D := match ds with
  | [] => none
  | d :: r => if srtOk (d :: r) = true ∧ (d :: r).length ≤ lim then some (leastD r d) else none
def isP (p : D → Bool) : D → Option D
  | .fz _ => none
  | .dic _ => none
  | d => some (.bl (p d))
def prim : Prim → List D → Option D
  | .len, [.tup xs] => if xs.length ≤ lim then some (.int xs.length) else none
  | .len, [.lst xs] => if xs.length ≤ lim then some (.int xs.length) else none
  | .len, [.fz xs] => if xs.length ≤ lim then some (.int xs.length) else none
  | .len, [.dic xs] => if xs.length ≤ lim then some (.int (keysD xs).length) else none
  | .abs, [.int i] => some (.int (if i < 0 then -i else i))
  | .int, [.int i] => some (.int i)
  | .int, [.bl b] => some (.int (if b = true then 1 else 0))
  | .tuple, [.lst xs] => some (.tup xs)
  | .tuple, [.tup xs] => some (.tup xs)
  | .list, [.lst xs] => some (.lst xs)
  | .list, [.tup xs] => some (.lst xs)
  | .sum, [.lst xs] => (intsOf xs).map fun is => .int is.sum
  | .sum, [.tup xs] => (intsOf xs).map fun is => .int is.sum
  | .min1, [.lst xs] => match intsOf xs with
    | some (i :: is) => some (.int (leastOf is i))
    | some [] => none
    | none => minK xs
  | .max1, [.lst xs] => match intsOf xs with
    | some (i :: is) => some (.int (mostOf is i))
    | _ => none
  | .sorted, [.lst xs] => sortD xs
  | .sorted, [.tup xs] => match intsOf xs with
    | some ns => if ns.length < 60 ∧ ns.Pairwise (· ≤ ·) then some (.lst xs) else none
    | none => sortK xs
  | .isInt, [d] => isP (fun d => match d with | .int _ => true | .bl _ => true | _ => false) d
  | .isBool, [d] => isP (fun d => match d with | .bl _ => true | _ => false) d
  | .isTup, [d] => isP (fun d => match d with | .tup _ => true | _ => false) d
  | .isLst, [d] => isP (fun d => match d with | .lst _ => true | _ => false) d
  | .isStr, [d] => isP (fun d => match d with | .str _ => true | _ => false) d
  | .isSeq, [d] => isP (fun d => match d with | .tup _ => true | .lst _ => true | _ => false) d
  | _, _ => none

/-! ### trees -/
inductive Tg where
  | nm (i : Nat) | tp (t : Tg) | nil | cons (t ts : Tg)
def Tg.slots : Tg → List Nat
  | .nm i => [i]
  | .tp t => t.slots
  | .nil => []
  | .cons t ts => t.slots ++ ts.slots
/-- expressions, rows of expressions (nil, cons), what is walked (items, rng1 .. zip) -/
inductive Ex where
  | lit (d : D) | var (i : Nat) | gval (x : Nat) | emp
  | tup (as : Ex) | lst (as : Ex)
  | bin (o : Bop) (a b : Ex) | neg (a : Ex)
  | cmp (o : Cop) (a b : Ex) | cmp2 (o p : Cop) (a b c : Ex)
  | and (a b : Ex) | or (a b : Ex) | not (a : Ex) | ite (c a b : Ex)
  | call (f : Nat) (io : Option Nat) (as : Ex)
  | ix (a b : Ex) | oix (i : Nat) (b : Ex)
  | sl (a lo hi : Ex)
  | prim (p : Prim) (as : Ex) | prim2 (p : Prim2) (a b : Ex) | isi (p : Prim) (a : Ex) | olen (i : Nat) | rev (a : Ex) | rev2 (a : Ex) | frm (k : Frm) (a : Ex)
  | lc (vs : List Nat) (t : Tg) (src cond elt : Ex)
  | lc2 (vs : List Nat) (t : Tg) (src cond : Ex) (vs1 : List Nat) (t1 : Tg) (src1 cond1 elt : Ex)
  | lc3 (vs : List Nat) (t : Tg) (src : Ex) (vs1 : List Nat) (t1 : Tg) (src1 : Ex) (vs2 : List Nat) (t2 : Tg) (src2 cond elt : Ex)
  | dl0 | dl1 (k v : Ex) | dcomp (vs : List Nat) (t : Tg) (src cond k v : Ex) | dget (a k d : Ex)
  | cmp3 (o p q : Cop) (a b c d : Ex) | max3 (a b c : Ex)
  | lend (i : Nat) (a : Ex) | rank (i : Nat) (a : Ex) | skeys (a : Ex) | lkeys (a : Ex) | idx (a b : Ex) | trng2 (a b : Ex)
  | nil | cons (a as : Ex)
  | keys (a : Ex) | vals (a : Ex) | pairs (a : Ex)
  | items (a : Ex) | rng1 (a : Ex) | rng2 (a b : Ex) | rng3 (a b c : Ex) | zip (a b : Ex)
inductive Sm where
  | nil | cons (s ss : Sm)
  | exp (e : Ex) | asg (t : Tg) (e : Ex) | own (i : Nat) (e : Ex)
  | par2 (i j : Nat) (a b : Ex) | parN (is : List Nat) (os : List Bool) (as : Ex) | par3 (i j k : Nat) (a b c : Ex)
  | pop (i : Nat) | dnew (i : Nat) | dput (i : Nat) (k e : Ex) | dput2 (i j : Nat) (k l a b : Ex) | dapp (i : Nat) (k e : Ex)
  | swp (i j k : Nat) | setix (i : Nat) (k e : Ex) | aug (i : Nat) (o : Bop) (e : Ex) | augix (i : Nat) (k : Ex) (o : Bop) (e : Ex) | app (i : Nat) (e : Ex)
  | ret (e : Ex) | retN | ite (c : Ex) (a b : Sm) | whl (c : Ex) (b : Sm) | for_ (t : Tg) (src : Ex) (b : Sm)
  | brk | cnt | pass | never
/-- a part of a slice: left out, or an int -/
def noneB : Ex → Bool
  | .lit .non => true
  | _ => false
def partR (left : Bool) (d : D) : Option (Option Int) := match left with
  | true => some none
  | false => match d with
    | .int i => some (some i)
    | _ => none
/-! ### slots -/
def getV (e : Env) (i : Nat) : R D := match e[i]? with
  | some (some (.val d)) => .ok d e
  | some (some (.ow false ds)) => .ok (.lst ds) (e.set i (some (.val (.lst ds))))
  | some (some (.ow true ds)) => .ok (.dic ds) (e.set i (some (.val (.dic ds))))
  | _ => .no
def getO (e : Env) (i : Nat) : Option (List D) := match e[i]? with
  | some (some (.ow false ds)) => some ds
  | _ => none
/-- a slot's own dict -/
def getM (e : Env) (i : Nat) : Option (List D) := match e[i]? with
  | some (some (.ow true ds)) => some ds
  | _ => none
/-- nothing is the slot's own -/
def bare (e : Env) (i : Nat) : Bool := (getO e i).isNone && (getM e i).isNone
/-- a name stored; a tuple taken apart -/
def bindT : Tg → D → Env → Option Env
  | .nm i, d, e => some (e.set i (some (.val d)))
  | .tp t, d, e => match d with
    | .tup ds => bindT t (.lst ds) e
    | .lst ds => bindT t (.lst ds) e
    | _ => none
  | .nil, d, e => match d with
    | .lst [] => some e
    | _ => none
  | .cons t ts, d, e => match d with
    | .lst (x :: xs) => (bindT t x e).bind fun e1 => bindT ts (.lst xs) e1
    | _ => none
def wipes (e : Env) : List Nat → Env
  | [] => e
  | v :: vs => (wipes e vs).set v none
/-- the slots vs as they were in e -/
def backs (e e1 : Env) : List Nat → Env
  | [] => e1
  | v :: vs => (backs e e1 vs).set v ((e[v]?).getD none)
def range_ (lo : Int) : Nat → List D
  | 0 => []
  | n + 1 => .int lo :: range_ (lo + 1) n
/-- the code of a row -/
def cd64 : List Int → Int
  | [] => 0
  | d :: r => d * 64 ^ r.length + cd64 r
def rowsOf : List D → Option (List (List Int))
  | [] => some []
  | .tup xs :: ds => (intsOf xs).bind fun a => (rowsOf ds).map fun r => a :: r
  | _ => none
/-- each once -/
def onceL {a : Type} [DecidableEq a] : List a → List a
  | [] => []
  | x :: l => if x ∈ l then onceL l else x :: onceL l
def rowsOk (rs : List (List Int)) : Bool := decide ((onceL rs).length < 60) && rs.all fun r => decide (r.length = (rs.headD [0]).length) && (decide (1 ≤ r.length) && r.all fun x => decide (0 ≤ x ∧ x < 64))
def ssetR (ds : List D) : Option D := (rowsOf ds).bind fun rs => if rowsOk rs = true then some (.lst ((srtB (fun a b => decide (cd64 a ≤ cd64 b)) (onceL rs)).map fun r => .tup (r.map .int))) else none
/-- the first place of an equal one -/
def posOf (d : D) : List D → Option Nat
  | [] => none
  | y :: ys => if D.eqv y d = true then some 0 else (posOf d ys).map (· + 1)
def idxop (ds : List D) (d : D) : Option D := if (D.sh 60 d && D.sh 60 (.lst ds)) = true then (posOf d ds).map fun j => .int (j : Nat) else none
def trng2op : D → D → Option D
  | .int i, .int j => if 0 ≤ i ∧ i ≤ 100000 ∧ 0 ≤ j ∧ j ≤ 100000 then some (.tup (range_ i (j - i).toNat)) else none
  | _, _ => none
/-- forms of more than one call: len(set(x)), list(range(x)), sorted(set(x)) -/
def frm : Frm → D → Option D
  | .lset, .tup ds => match intsOf ds with
    | some ns => if ns.length ≤ 900 then some (.int ((onceL ns).length : Nat)) else none
    | none => none
  | .lset, .lst ds => match intsOf ds with
    | some ns => if ns.length ≤ 900 then some (.int ((onceL ns).length : Nat)) else none
    | none => none
  | .sset, .lst ds => match intsOf ds with
    | some ns => if ns.length < 60 then some (.lst ((srtB (fun a b => decide (a ≤ b)) (onceL ns)).map .int)) else none
    | none => ssetR ds
  | .sset, .tup ds => match intsOf ds with
    | some ns => if ns.length < 60 then some (.lst ((srtB (fun a b => decide (a ≤ b)) (onceL ns)).map .int)) else none
    | none => ssetR ds
  | .trng, .int n => if 0 ≤ n ∧ n ≤ 100000 then some (.tup (range_ 0 n.toNat)) else none
  | .lrng, .int n => if 0 ≤ n ∧ n ≤ 100000 then some (.lst (range_ 0 n.toNat)) else none
  | _, _ => none
/-- the places of a row, by the order of what stands there -/
def rankD (ds : List D) : List D := (srtB (fun a b : Nat × D => leD a.2 b.2) ((List.range ds.length).zip ds)).map fun p => D.int (p.1 : Nat)
def rankop : D → D → Option D
  | .int n, .lst ds => if n = (ds.length : Int) ∧ ds.length ≤ 100000 ∧ srtOk ds = true then some (.lst (rankD ds)) else none
  | _, _ => none
/-- two rows walked together -/
def zipD : List D → List D → List D
  | x :: xs, y :: ys => .tup [x, y] :: zipD xs ys
  | _, _ => []
def rangeOk (lo hi : Int) : Bool := decide (-(2 ^ 62) ≤ lo ∧ lo < 2 ^ 62 ∧ -(2 ^ 62) ≤ hi ∧ hi < 2 ^ 62)
def compL (vs : List Nat) (t : Tg) (c : Env → R D) (f : Env → R D) : List D → Env → R (List D)
  | [], e => .ok [] e
  | d :: ds, e => match bindT t d (wipes e vs) with
    | none => .no
    | some e1 => match c e1 with
      | .ok b e2 => match b with
        | .bl true => match f e2 with
          | .ok y e3 => (compL vs t c f ds e3).bind fun ys e4 => .ok (y :: ys) e4
          | _ => .no
        | .bl false => compL vs t c f ds e2
        | _ => .no
      | _ => .no
/-- two clauses -/
def compL2 (vs : List Nat) (t : Tg) (c : Env → R D) (s1 : Env → R (List D)) (vs1 : List Nat) (t1 : Tg) (c1 f : Env → R D) : List D → Env → R (List D)
  | [], e => .ok [] e
  | d :: ds, e => match bindT t d (wipes e vs) with
    | none => .no
    | some e1 => match c e1 with
      | .ok b e2 => match b with
        | .bl true => match s1 e2 with
          | .ok ds1 e3 => match compL vs1 t1 c1 f ds1 e3 with
            | .ok ys1 e4 => (compL2 vs t c s1 vs1 t1 c1 f ds e4).bind fun ys e5 => .ok (ys1 ++ ys) e5
            | _ => .no
          | _ => .no
        | .bl false => compL2 vs t c s1 vs1 t1 c1 f ds e2
        | _ => .no
      | _ => .no
/-- three clauses, the last with a test -/
def compL3 (vs : List Nat) (t : Tg) (s1 : Env → R (List D)) (vs1 : List Nat) (t1 : Tg) (s2 : Env → R (List D)) (vs2 : List Nat) (t2 : Tg) (c f : Env → R D) : List D → Env → R (List D)
  | [], e => .ok [] e
  | d :: ds, e => match bindT t d (wipes e vs) with
    | none => .no
    | some e1 => match s1 e1 with
      | .ok ds1 e2 => match compL2 vs1 t1 (fun e => .ok (.bl true) e) s2 vs2 t2 c f ds1 e2 with
        | .ok ys1 e3 => (compL3 vs t s1 vs1 t1 s2 vs2 t2 c f ds e3).bind fun ys e4 => .ok (ys1 ++ ys) e4
        | _ => .no
      | _ => .no
/-- a dict comprehension -/
def compD (vs : List Nat) (t : Tg) (c k v : Env → R D) : List D → List D → Env → R (List D)
  | [], acc, e => .ok acc e
  | d :: ds, acc, e => match bindT t d (wipes e vs) with
    | none => .no
    | some e1 => match c e1 with
      | .ok b e2 => match b with
        | .bl true => match k e2 with
          | .ok x e3 => match v e3 with
            | .ok y e4 => if fitD x acc = true ∧ acc.length < lim then compD vs t c k v ds (putD x y acc) e4 else .no
            | _ => .no
          | _ => .no
        | .bl false => compD vs t c k v ds acc e2
        | _ => .no
      | _ => .no
/-- a dict's content, from pairs in turn -/
def dictD : List D → List D → Option (List D)
  | acc, k :: v :: r => if fitD k acc = true ∧ acc.length < lim then dictD (putD k v acc) r else none
  | acc, [] => some acc
  | _, _ => none
/-- lo, lo + c, .. -/
def rangeC (lo c : Int) : Nat → List D
  | 0 => []
  | n + 1 => .int lo :: rangeC (lo + c) c n
/-- how many: up by c -/
def stepN (i j c : Int) : Nat := if i < j then ((j - i - 1) / c).toNat + 1 else 0
def slFlat : Option Sl → Bool
  | none => true
  | some (.val d) => d.flat
  | some (.ow _ ds) => D.flats ds
def isVal : Option Sl → Bool
  | some (.val _) => true
  | _ => false
/-- slot i's list may be its own again: nobody else got it -/
def lendOk (i : Nat) : Nat → Env → Env → Bool
  | k, a :: e, b :: e' => (k == i || (isVal a || slFlat b)) && lendOk i (k + 1) e e'
  | _, _, _ => true
/-- behind a call: the first argument's own list is put back -/
def putIo (io : Option Nat) (cs : List D) (e : Env) : Env := match io with
  | none => e
  | some i => e.set i (some (.own cs))
def argsOf (io : Option Nat) (ds : List D) (e : Env) : Option (List Sl) := match io with
  | none => some (ds.map Sl.val)
  | some i => (getO e i).map fun cs => .own cs :: ds.map Sl.val
def ioOk (io : Option Nat) (e : Env) : Bool := match io with
  | none => true
  | some i => (getO e i).isSome
def afterCall (io : Option Nat) (o : O) (e : Env) : R D := match o with
  | .ok d cs => .ok d (putIo io cs e)
  | .ex x => match io with
    | none => .ex x e
    | some _ => .no
  | .no => .no
mutual
def den (C : Ctx) : Ex → Env → R D
  | .lit d, e => .ok d e
  | .var i, e => getV e i
  | .gval x, e => .ok (C.glob x) e
  | .emp, e => .ok .emp e
  | .tup as, e => (denL C as e).bind fun ds e => if ds.length ≤ lim then .ok (.tup ds) e else .no
  | .lst as, e => (denL C as e).bind fun ds e => if ds.length ≤ lim then .ok (.lst ds) e else .no
  | .bin o a b, e => (den C a e).bind fun x e => (den C b e).bind fun y e => R.of (binop o x y) e
  | .neg a, e => (den C a e).bind fun x e => match x with
    | .int i => .ok (.int (-i)) e
    | _ => .no
  | .cmp o a b, e => (den C a e).bind fun x e => (den C b e).bind fun y e => R.of ((cmpop o x y).map D.bl) e
  | .cmp2 o p a b c, e => (den C a e).bind fun x e => (den C b e).bind fun y e => match cmpop o x y with
    | some true => (den C c e).bind fun z e => R.of ((cmpop p y z).map D.bl) e
    | some false => .ok (.bl false) e
    | none => .no
  | .and a b, e => (den C a e).bind fun x e => match x with
    | .bl true => den C b e
    | .bl false => .ok (.bl false) e
    | _ => .no
  | .or a b, e => (den C a e).bind fun x e => match x with
    | .bl true => .ok (.bl true) e
    | .bl false => den C b e
    | .int i => if i = 0 then den C b e else .ok (.int i) e
    | _ => .no
  | .not a, e => (den C a e).bind fun x e => R.way x (.ok (.bl false) e) (.ok (.bl true) e)
  | .ite c a b, e => (den C c e).bind fun x e => R.way x (den C a e) (den C b e)
  | .call f io as, e => match ioOk io e with
    | true => (denL C as e).bind fun ds e => match argsOf io ds e with
      | some xs => afterCall io (C.call f xs) e
      | none => .no
    | false => .no
  | .ix a b, e => (den C a e).bind fun x e => (den C b e).bind fun y e => R.of (ixop x y) e
  | .oix i b, e => match ioOk (some i) e with
    | true => (den C b e).bind fun y e => match getO e i with
      | some ds => R.of (ixop (.lst ds) y) e
      | none => .no
    | false => .no
  | .sl a lo hi, e => (den C a e).bind fun x e => ((den C lo e).bind fun l e => R.of (partR (noneB lo) l) e).bind fun l e => ((den C hi e).bind fun h e => R.of (partR (noneB hi) h) e).bind fun h e => R.of (slop x l h) e
  | .prim p as, e => (denL C as e).bind fun ds e => R.of (prim p ds) e
  | .prim2 p a b, e => (den C a e).bind fun x e => (den C b e).bind fun y e => R.of (prim2 p x y) e
  | .isi p a, e => (den C a e).bind fun x e => R.of (prim p [x]) e
  | .rev a, e => (den C a e).bind fun x e => R.of (revop x) e
  | .rev2 a, e => (den C a e).bind fun x e => R.of (rev2op x) e
  | .frm k a, e => (den C a e).bind fun x e => R.of (Ev.frm k x) e
  | .rank i a, e => (den C a e).bind fun x e => match e[i]? with
    | some (some (.val d)) => R.of (rankop x d) e
    | _ => .no
  | .skeys a, e => (den C a e).bind fun x e => match x with
    | .dic ds => R.of (sortK (keysD ds)) e
    | _ => .no
  | .idx a b, e => (den C a e).bind fun x e => match x with
    | .lst ds => (den C b e).bind fun y e => R.of (idxop ds y) e
    | _ => .no
  | .trng2 a b, e => (den C a e).bind fun x e => (den C b e).bind fun y e => R.of (trng2op x y) e
  | .lkeys a, e => (den C a e).bind fun x e => match x with
    | .dic ds => if (keysD ds).length ≤ lim then .ok (.lst (keysD ds)) e else .no
    | _ => .no
  | .olen i, e => match getO e i with
    | some ds => R.of (prim .len [.lst ds]) e
    | none => .no
  | .lc vs t src cond elt, e => (denL C src e).bind fun ds e => match vs.all fun v => bare e v with
    | true => match compL vs t (den C cond) (den C elt) ds e with
      | .ok ys e1 => if ys.length ≤ lim then .ok (.lst ys) (backs e e1 vs) else .no
      | _ => .no
    | false => .no
  | .lc2 vs t src cond vs1 t1 src1 cond1 elt, e => (denL C src e).bind fun ds e => match vs.all fun v => bare e v with
    | true => match compL2 vs t (den C cond) (denL C src1) vs1 t1 (den C cond1) (den C elt) ds e with
      | .ok ys e1 => if ys.length ≤ lim then .ok (.lst ys) (backs e e1 vs) else .no
      | _ => .no
    | false => .no
  | .lc3 vs t src vs1 t1 src1 vs2 t2 src2 cond elt, e => (denL C src e).bind fun ds e => match vs.all fun v => bare e v with
    | true => match compL3 vs t (denL C src1) vs1 t1 (denL C src2) vs2 t2 (den C cond) (den C elt) ds e with
      | .ok ys e1 => if ys.length ≤ lim then .ok (.lst ys) (backs e e1 vs) else .no
      | _ => .no
    | false => .no
  | .dl0, e => .ok (.dic []) e
  | .dl1 k v, e => (den C k e).bind fun x e => (den C v e).bind fun y e => if fitD x [] = true then .ok (.dic [x, y]) e else .no
  | .dcomp vs t src cond k v, e => (denL C src e).bind fun ds e => match vs.all fun v => bare e v with
    | true => match compD vs t (den C cond) (den C k) (den C v) ds [] e with
      | .ok ys e1 => .ok (.dic ys) (backs e e1 vs)
      | _ => .no
    | false => .no
  | .dget a k d, e => (den C a e).bind fun x e => (den C k e).bind fun y e => (den C d e).bind fun z e => match x with
    | .dic ds => if fitD y ds = true then .ok ((lookD y ds).getD z) e else .no
    | _ => .no
  | .cmp3 o p q a b c d, e => (den C a e).bind fun x e => (den C b e).bind fun y e => match cmpop o x y with
    | some true => (den C c e).bind fun z e => match cmpop p y z with
      | some true => (den C d e).bind fun w e => R.of ((cmpop q z w).map D.bl) e
      | some false => .ok (.bl false) e
      | none => .no
    | some false => .ok (.bl false) e
    | none => .no
  | .max3 a b c, e => (den C a e).bind fun x e => (den C b e).bind fun y e => (den C c e).bind fun z e => match x, y, z with
    | .int i, .int j, .int k => .ok (.int (mostOf [j, k] i)) e
    | _, _, _ => .no
  | .lend i a, e => match getO e i with
    | some ds => (den C a (e.set i (some (.val (.lst ds))))).bind fun d e1 => if (d.flat && lendOk i 0 e e1) = true then .ok d (e1.set i (some (.own ds))) else .no
    | none => match getM e i with
      | some ds => (den C a (e.set i (some (.val (.dic ds))))).bind fun d e1 => if (d.flat && lendOk i 0 e e1) = true then .ok d (e1.set i (some (.dic ds))) else .no
      | none => .no
  | _, _ => .no
def denL (C : Ctx) : Ex → Env → R (List D)
  | .nil, e => .ok [] e
  | .cons a as, e => (den C a e).bind fun x e => (denL C as e).bind fun xs e => .ok (x :: xs) e
  | .items a, e => (den C a e).bind fun x e => match x with
    | .tup ds => .ok ds e
    | .lst ds => .ok ds e
    | .fz ds => .ok ds e
    | _ => .no
  | .keys a, e => (den C a e).bind fun x e => match x with
    | .dic ds => .ok (keysD ds) e
    | _ => .no
  | .vals a, e => (den C a e).bind fun x e => match x with
    | .dic ds => .ok (valsD ds) e
    | _ => .no
  | .pairs a, e => (den C a e).bind fun x e => match x with
    | .dic ds => .ok (itemsD ds) e
    | _ => .no
  | .rng1 a, e => (den C a e).bind fun x e => match x with
    | .int n => if rangeOk 0 n = true then .ok (range_ 0 n.toNat) e else .no
    | _ => .no
  | .rng2 a b, e => (den C a e).bind fun x e => (den C b e).bind fun y e => match x, y with
    | .int i, .int j => if rangeOk i j = true then .ok (range_ i (j - i).toNat) e else .no
    | _, _ => .no
  | .rng3 a b c, e => (den C a e).bind fun x e => (den C b e).bind fun y e => (den C c e).bind fun z e => match x, y, z with
    | .int i, .int j, .int k => if (rangeOk i j && decide (0 < k ∧ k < 1000000)) = true then .ok (rangeC i k (stepN i j k)) e else .no
    | _, _, _ => .no
  | .zip a b, e => (den C a e).bind fun x e => (den C b e).bind fun y e => match x, y with
    | .tup xs, .tup ys => .ok (zipD xs ys) e
    | .lst xs, .lst ys => .ok (zipD xs ys) e
    | .lst xs, .tup ys => .ok (zipD xs ys) e
    | _, _ => .no
  | _, _ => .no
end
/-! ### statements -/
inductive Fl where
  | nx | bk | ct | rt (d : D)
def loopW (c : Env → R D) (b : Env → R Fl) : Nat → Env → R Fl
  | 0, _ => .no
  | n + 1, e => (c e).bind fun x e => R.way x ((b e).bind fun f e => match f with
      | .nx => loopW c b n e
      | .ct => loopW c b n e
      | .bk => .ok .nx e
      | .rt d => .ok (.rt d) e) (.ok .nx e)
def loopF (t : Tg) (b : Env → R Fl) : List D → Env → R Fl
  | [], e => .ok .nx e
  | d :: ds, e => match bindT t d e with
    | none => .no
    | some e => (b e).bind fun f e => match f with
      | .nx => loopF t b ds e
      | .ct => loopF t b ds e
      | .bk => .ok .nx e
      | .rt d => .ok (.rt d) e
/-- an item of an own list stored -/
def setAt (ds : List D) (k : D) (d : D) : Option (List D) := match k with
  | .int i => (place ds.length i).map fun j => ds.set j d
  | _ => none
/-- an int that a slot holds -/
def intAt (e : Env) (j : Nat) : Option Int := match e[j]? with
  | some (some (.val (.int a))) => some a
  | _ => none
/-- two items of an own list exchanged -/
def swapL (ds : List D) (a b : Int) : Option (List D) := (place ds.length a).bind fun pa => (place ds.length b).bind fun pb => (ds[pa]?).bind fun y => (ds[pb]?).map fun x => (ds.set pa x).set pb y
/-- op= on ints -/
def augop : Bop → D → D → Option D
  | .add, .int i, .int j => some (.int (i + j))
  | .sub, .int i, .int j => some (.int (i - j))
  | _, _, _ => none
/-- a value stored: as it is, or as the slot's own list -/
def slOf : Bool → D → Option Sl
  | false, d => some (.val d)
  | true, .lst ds => some (.own ds)
  | true, .dic ds => some (.dic ds)
  | true, _ => none
def slsOf : List Bool → List D → Option (List Sl)
  | [], [] => some []
  | o :: os, d :: ds => (slOf o d).bind fun s => (slsOf os ds).map fun ss => s :: ss
  | _, _ => none
def putRow : List Nat → List Sl → Env → Env
  | i :: is, s :: ss, e => putRow is ss (e.set i (some s))
  | _, _, e => e
def asL (r : R D) : R D := r.bind fun d e => match d with
  | .lst ds => .ok (.lst ds) e
  | .dic ds => .ok (.dic ds) e
  | _ => .no
/-- a row: true for a new list that will be a name's own -/
def denRow (C : Ctx) : List Bool → Ex → Env → R (List D)
  | true :: os, .cons a as, e => (asL (den C a e)).bind fun x e => (denRow C os as e).bind fun xs e => .ok (x :: xs) e
  | false :: os, .cons a as, e => (den C a e).bind fun x e => (denRow C os as e).bind fun xs e => .ok (x :: xs) e
  | [], .nil, e => .ok [] e
  | _, _, _ => .no
def denS (C : Ctx) : Sm → Env → R Fl
  | .nil, e => .ok .nx e
  | .cons s ss, e => (denS C s e).bind fun f e => match f with
    | .nx => denS C ss e
    | f => .ok f e
  | .exp a, e => (den C a e).bind fun _ e => .ok .nx e
  | .asg t a, e => (den C a e).bind fun d e => match bindT t d e with
    | some e => .ok .nx e
    | none => .no
  | .own i a, e => (den C a e).bind fun d e => match d with
    | .lst ds => .ok .nx (e.set i (some (.own ds)))
    | .dic ds => .ok .nx (e.set i (some (.dic ds)))
    | _ => .no
  | .par2 i j a b, e => (den C a e).bind fun x e => (den C b e).bind fun y e => .ok .nx ((e.set i (some (.val x))).set j (some (.val y)))
  | .parN is os as, e => (denRow C os as e).bind fun ds e => match slsOf os ds with
    | some ss => .ok .nx (putRow is ss e)
    | none => .no
  | .par3 i j k a b c, e => (den C a e).bind fun x e => (den C b e).bind fun y e => (den C c e).bind fun z e => .ok .nx (((e.set i (some (.val x))).set j (some (.val y))).set k (some (.val z)))
  | .swp i j k, e => match getO e i, intAt e j, intAt e k with
    | some ds, some a, some b => match swapL ds a b with
      | some ds => .ok .nx (e.set i (some (.own ds)))
      | none => .no
    | _, _, _ => .no
  | .pop i, e => match getO e i with
    | some ds => if ds.isEmpty = true then .no else .ok .nx (e.set i (some (.own ds.dropLast)))
    | none => .no
  | .dnew i, e => .ok .nx (e.set i (some (.dic [])))
  | .dput i k a, e => (den C a e).bind fun d e => match (getM e i).isSome with
    | true => (den C k e).bind fun y e => match getM e i with
      | some ds => if fitD y ds = true ∧ ds.length < lim then .ok .nx (e.set i (some (.dic (putD y d ds)))) else .no
      | none => .no
    | false => .no
  | .dput2 i j k l a b, e => (den C a e).bind fun d1 e => (den C b e).bind fun d2 e => match (getM e i).isSome with
    | true => (den C k e).bind fun y e => match getM e i with
      | some ds => if fitD y ds = true ∧ ds.length < lim then (match (getM (e.set i (some (.dic (putD y d1 ds)))) j).isSome with
        | true => (den C l (e.set i (some (.dic (putD y d1 ds))))).bind fun z e => match getM e j with
          | some es => if fitD z es = true ∧ es.length < lim then .ok .nx (e.set j (some (.dic (putD z d2 es)))) else .no
          | none => .no
        | false => .no) else .no
      | none => .no
    | false => .no
  | .dapp i k a, e => match (getM e i).isSome with
    | true => (den C k e).bind fun y e => (den C a e).bind fun d e => match getM e i with
      | some ds => if fitD y ds = true ∧ ds.length < lim then (match lookD y ds with
        | some (.lst xs) => if xs.length < lim then .ok .nx (e.set i (some (.dic (putD y (.lst (xs ++ [d])) ds)))) else .no
        | some _ => .no
        | none => .ok .nx (e.set i (some (.dic (putD y (.lst [d]) ds))))) else .no
      | none => .no
    | false => .no
  | .setix i k a, e => (den C a e).bind fun d e => match ioOk (some i) e with
    | true => (den C k e).bind fun y e => match (getO e i).bind fun ds => setAt ds y d with
      | some ds => .ok .nx (e.set i (some (.own ds)))
      | none => .no
    | false => .no
  | .aug i o a, e => match e[i]? with
    | some (some (.val x)) => (den C a e).bind fun y e => match augop o x y with
      | some z => .ok .nx (e.set i (some (.val z)))
      | none => .no
    | _ => .no
  | .augix i k o a, e => match ioOk (some i) e with
    | true => (den C k e).bind fun y e => match (getO e i).bind fun ds => ixop (.lst ds) y with
      | some x => (den C a e).bind fun w e => match (augop o x w).bind fun z => (getO e i).bind fun ds => setAt ds y z with
        | some ds => .ok .nx (e.set i (some (.own ds)))
        | none => .no
      | none => .no
    | false => .no
  | .app i a, e => match ioOk (some i) e with
    | false => .no
    | true => (den C a e).bind fun d e => match getO e i with
    | some ds => if ds.length < lim then .ok .nx (e.set i (some (.own (ds ++ [d])))) else .no
    | none => .no
  | .ret a, e => (den C a e).bind fun d e => .ok (.rt d) e
  | .retN, e => .ok (.rt .non) e
  | .ite c a b, e => (den C c e).bind fun x e => R.way x (denS C a e) (denS C b e)
  | .whl c b, e => loopW (den C c) (denS C b) C.fuel e
  | .for_ t src b, e => (denL C src e).bind fun ds e => loopF t (denS C b) ds e
  | .brk, e => .ok .bk e
  | .cnt, e => .ok .ct e
  | .pass, e => .ok .nx e
  | .never, _ => .no
/-! ### defs -/
structure Fn where
  np : Nat
  ns : Nat
  io : Bool
  body : Sm
def endOf (io : Bool) (d : D) (e : Env) : O := match io with
  | false => .ok d []
  | true => match getO e 0 with
    | some cs => .ok d cs
    | none => .no
def runFn (C : Ctx) (F : Fn) (args : List Sl) : O :=
  match denS C F.body (args.map some ++ List.replicate (F.ns - F.np) none) with
  | .ok .nx e => endOf F.io .non e
  | .ok (.rt d) e => endOf F.io d e
  | .ex x _ => match F.io with
    | false => .ex x
    | true => .no
  | _ => .no
def argsFit (F : Fn) : List Sl → Bool
  | args => args.length == F.np && (match args with
    | .ow false _ :: r => F.io && r.all fun | .val _ => true | _ => false
    | r => !F.io && r.all fun | .val _ => true | _ => false)
/-- the calls of a table of defs, n deep -/
def callN (glob : Nat → D) (fuel : Nat) (tbl : List Fn) : Nat → Call
  | 0, _, _ => .no
  | n + 1, f, args => match tbl[f]? with
    | none => .no
    | some F => if argsFit F args = true then runFn ⟨callN glob fuel tbl n, glob, fuel⟩ F args else .no
end Ev
set_option Elab.async false
set_option linter.all false
set_option maxRecDepth 100000
set_option maxHeartbeats 4000000
set_option autoImplicit false
/-! Ev1: how plain values stand in the abstract heap. -/
namespace Ev
open PySem PySem.Spec PyProof.Rows L2
section
variable (K : PySem.W.Frag)
/-- a list of the module's own -/
def KL (a : Addr) (vs : List V) : Prop := ∃ (o : Obj) (its : Array Value) (n : Nat), K.lookup a = some o ∧ o.cls = .type "list" ∧ o.dict = none ∧ o.data = .seq its n ∧ its.size ≤ sizeLine ∧ Vals vs its.toList
/-! ### dicts: an object by its own entries -/
mutual
def D.nk : D → NestedKey
  | .non => .none
  | .int i => .num i
  | .bl b => .num (if b = true then 1 else 0)
  | .str x => .text x
  | .tup ds => .tup (D.nks ds)
  | _ => .none
def D.nks : List D → List NestedKey
  | [] => []
  | d :: ds => D.nk d :: D.nks ds
end
mutual
/-- the hash of an int, of a tuple of such -/
def D.hsh : D → Int
  | .int i => hashInt i
  | .tup ds => reduceHash (Builtin.Tuple.tupleHashOf (D.hshs ds))
  | _ => 0
def D.hshs : List D → List Int
  | [] => []
  | d :: ds => D.hsh d :: D.hshs ds
end
/-- an entry: its hash, its key, its value -/
abbrev DE := Int × V × V
def DER (e : DE) (x : DictEntry) : Prop := x.hash = e.1 ∧ RelV e.2.1 x.key ∧ RelV e.2.2 x.val
def DicF (a : Addr) (es : List DE) (ob : Obj) : Heap → Prop := fun h => es.length ≤ sizeLine ∧ (a == sysModules) = false ∧ ∃ o arr ep, h.get? a = some o ∧ o.ExactDict ∧ o.data = .dict arr ep ∧ Paired DER es arr.toList ∧ o = ob
def ent : List D → List V → List DE
  | d :: _ :: ds, k :: x :: vs => (d.hsh, k, x) :: ent ds vs
  | _, _ => []
def evn : List D → Bool
  | [] => true
  | [_] => false
  | _ :: _ :: r => evn r
/-- keys and values in turn: the keys differ; they are ints, or they are tuples -/
structure DOk (ds : List D) : Prop where
  ev : evn ds = true
  nd : ((keysD ds).map D.nk).Nodup
  kd : (∀ k ∈ keysD ds, ∃ i, k = .int i) ∨ ∀ k ∈ keysD ds, ∃ xs, k = .tup xs ∧ D.purs xs = true ∧ D.dps xs < 8
/-- what a slot owns, as an object -/
def LO (a : Addr) (m : Bool) (ds : List D) (vs : List V) (ob : Obj) : HO := match m with
  | true => .ext (DicF a (ent ds vs) ob)
  | false => .lst vs
def noOb : Obj := { cls := .none, data := .fields #[] }
/-- it stands so, whatever its object -/
def LOs (H : Hp) (a : Addr) (m : Bool) (ds : List D) (vs : List V) : Prop := ∃ ob, H a = some (LO a m ds vs ob)
/-- a dict of these entries stands there -/
def DicAt (H : Hp) (a : Addr) (es : List DE) : Prop := ∃ ob, H a = some (.ext (DicF a es ob))
mutual
/-- the value v is the plain value d; none of its lists is among O -/
def Rp (O : Addr → Prop) (H : Hp) : D → V → Prop
  | .non, v => v = .non
  | .bl b, v => v = .bl b
  | .int i, v => v = .int i
  | .str x, v => v = .str x
  | .tup ds, v => ∃ a vs, v = .ref a ∧ SqT K H a vs ∧ Rps O H ds vs
  | .lst ds, v => ∃ a vs, v = .ref a ∧ ¬ O a ∧ H a = some (.lst vs) ∧ Rps O H ds vs
  | .fz ds, v => ∃ a vs, v = .ref a ∧ (KL K a vs ∨ (∃ o, H a = some (.frz o (.lst vs))) ∨ (False ∧ H a = some (.lst vs))) ∧ Rps O H ds vs
  | .emp, v => ∃ a, v = .ref a ∧ H a = some (.dK [])
  | .dic ds, v => ∃ a vs, v = .ref a ∧ ¬ O a ∧ DicAt H a (ent ds vs) ∧ DOk ds ∧ Rps O H ds vs
def Rps (O : Addr → Prop) (H : Hp) : List D → List V → Prop
  | [], vs => vs = []
  | d :: ds, vs => ∃ v r, vs = v :: r ∧ Rp O H d v ∧ Rps O H ds r
end
/-- what a slot owns: a list, a dict -/
def Rpo (O : Addr → Prop) (H : Hp) (m : Bool) (ds : List D) (vs : List V) : Prop := match m with
  | true => DOk ds ∧ Rps K O H ds vs
  | false => Rps K O H ds vs
end
section
variable {K : PySem.W.Frag} {O O' : Addr → Prop} {H H' : Hp}
/-- no table of code objects -/
def NT (o : HO) : Prop := ∀ ps, o ≠ .tbl ps
theorem NT.lst {xs : List V} : NT (.lst xs) := fun _ z => by cases z
theorem NT.tup {xs : List V} : NT (.tup xs) := fun _ z => by cases z
theorem NT.frz {o : Obj} {u : HO} : NT (.frz o u) := fun _ z => by cases z
theorem NT.ext {f : Heap → Prop} : NT (.ext f) := fun _ z => by cases z
theorem NT.LO {a : Addr} {m : Bool} {ds : List D} {vs : List V} {ob : Obj} : NT (LO a m ds vs ob) := by
  unfold Ev.LO
  split
  · exact .ext
  · exact .lst
/-- a list, or another thing that may be written -/
def Wr (o : HO) : Prop := (∃ vs, o = .lst vs) ∨ ∃ a es, ∃ ob, o = .ext (DicF a es ob)
theorem Wr.lst {vs : List V} : Wr (.lst vs) := .inl ⟨_, rfl⟩
theorem Wr.dic {a : Addr} {es : List DE} {ob : Obj} : Wr (.ext (DicF a es ob)) := .inr ⟨_, _, _, rfl⟩
def codeOb (q : Str) : Obj := { cls := .none, data := .fields #[.none, .str q default] }
theorem code_ne {c : Addr} {q : Str} : ¬ Wr (LamX.CodeO c q) := fun w => by
  rcases w with ⟨_, z⟩ | ⟨a, es, ob, z⟩
  · unfold LamX.CodeO at z; cases z
  unfold LamX.CodeO at z
  injection z with z
  have hp : ∀ (b : Addr) (o : Obj), (Heap.mk (Array.replicate (c + 1) (codeOb q)) {}).get? b = some o → o = codeOb q := fun b o h => by
    unfold Heap.get? at h
    by_cases hb : b < c + 1
    · simp only [Array.getElem?_replicate, hb, if_true] at h
      exact (Option.some.inj h).symm
    · simp only [Array.getElem?_replicate, hb, if_false] at h
      cases h
  have hc : (Heap.mk (Array.replicate (c + 1) (codeOb q)) {}).get? c = some (codeOb q) := by
    unfold Heap.get?
    simp only [Array.getElem?_replicate, Nat.lt_succ_self, if_true]
    rfl
  have w := congrFun z (Heap.mk (Array.replicate (c + 1) (codeOb q)) {})
  have w1 : DicF a es ob (Heap.mk (Array.replicate (c + 1) (codeOb q)) {}) := by
    rw [← w]
    exact ⟨_, _, _, hc, rfl, rfl⟩
  obtain ⟨_, _, o, arr, ep, h1, _, h2, _⟩ := w1
  rw [hp _ _ h1] at h2
  cases h2
theorem Wr.LO {a : Addr} {m : Bool} {ds : List D} {vs : List V} {ob : Obj} : Wr (LO a m ds vs ob) := by
  unfold Ev.LO
  split
  · exact .dic
  · exact .lst
theorem Wr.nt {o : HO} (w : Wr o) : NT o := by
  rcases w with ⟨_, w⟩ | ⟨_, _, _, w⟩
  · rw [w]; exact .lst
  · rw [w]; exact .ext
theorem NT.dK {kvs : List (Key × V)} : NT (.dK kvs) := fun _ z => by cases z
/-- what is not among S stays, but for tables; those of S are lists -/
structure Fr (S : Addr → Prop) (H H' : Hp) : Prop where
  fr : ∀ a o, H a = some o → NT o → ¬ S a → H' a = some o
  ls : ∀ a, S a → ∃ o, H a = some o ∧ Wr o
theorem LOs.fr {S : Addr → Prop} {a : Addr} {m : Bool} {ds : List D} {vs : List V} (h : LOs H a m ds vs) (f : Fr S H H') (n : ¬ S a) : LOs H' a m ds vs := let ⟨ob, h⟩ := h; ⟨ob, f.fr _ _ h .LO n⟩
theorem LOs.ne {a p : Addr} {o : HO} {m : Bool} {ds : List D} {vs : List V} (h : LOs H a m ds vs) (n : a ≠ p) : LOs (upd H p o) a m ds vs := let ⟨ob, h⟩ := h; ⟨ob, by rw [upd_ne n]; exact h⟩
theorem LOs.same {a : Addr} {m : Bool} {ds : List D} {vs : List V} {ob : Obj} : LOs (upd H a (LO a m ds vs ob)) a m ds vs := ⟨ob, upd_same⟩
theorem LOs.at {a : Addr} {m : Bool} {ds : List D} {vs : List V} (h : LOs H a m ds vs) : ∃ o, H a = some o ∧ Wr o := let ⟨_, h⟩ := h; ⟨_, h, .LO⟩
theorem LOs.lst {a : Addr} {ds : List D} {vs : List V} (h : LOs H a false ds vs) : H a = some (.lst vs) := let ⟨_, h⟩ := h; h
theorem LOs.of_lst {a : Addr} {ds : List D} {vs : List V} (h : H a = some (.lst vs)) : LOs H a false ds vs := ⟨noOb, h⟩
theorem LOs.dic {a : Addr} {ds : List D} {vs : List V} (h : LOs H a true ds vs) : DicAt H a (ent ds vs) := h
theorem DicAt.fr {S : Addr → Prop} {a : Addr} {es : List DE} (h : DicAt H a es) (f : Fr S H H') (n : ¬ S a) : DicAt H' a es := let ⟨ob, h⟩ := h; ⟨ob, f.fr _ _ h .ext n⟩
theorem Fr.sqT {S : Addr → Prop} (f : Fr S H H') {a : Addr} {vs : List V} (h : SqT K H a vs) : SqT K H' a vs := by
  have no : ∀ u, H a = some u → ¬ Wr u → ¬ S a := fun u e n s => by
    obtain ⟨o, q, w⟩ := f.ls a s
    rw [e] at q
    cases q
    exact n w
  rcases h with (h | ⟨o, h⟩) | h
  · exact .inl (.inl (f.fr _ _ h .tup (no _ h fun z => by rcases z with ⟨_, z⟩ | ⟨_, _, _, z⟩ <;> cases z)))
  · exact .inl (.inr ⟨o, f.fr _ _ h .frz (no _ h fun z => by rcases z with ⟨_, z⟩ | ⟨_, _, _, z⟩ <;> cases z)⟩)
  · exact .inr h
mutual
theorem Rp.mono {S : Addr → Prop} (f : Fr S H H') (hS : ∀ a, S a → O a) (hO : ∀ a, O' a → O a ∨ H a = none) : ∀ {d : D} {v : V}, Rp K O H d v → Rp K O' H' d v
  | .non, v, h => by unfold Rp at h ⊢; exact h
  | .bl b, v, h => by unfold Rp at h ⊢; exact h
  | .int i, v, h => by unfold Rp at h ⊢; exact h
  | .str x, v, h => by unfold Rp at h ⊢; exact h
  | .tup ds, v, h => by
    unfold Rp at h ⊢
    obtain ⟨a, vs, e, s, r⟩ := h
    exact ⟨a, vs, e, f.sqT s, Rps.mono f hS hO r⟩
  | .lst ds, v, h => by
    unfold Rp at h ⊢
    obtain ⟨a, vs, e, n, s, r⟩ := h
    refine ⟨a, vs, e, fun z => ?_, f.fr _ _ s .lst (fun z => n (hS a z)), Rps.mono f hS hO r⟩
    rcases hO a z with q | q
    · exact n q
    · rw [s] at q; cases q
  | .fz ds, v, h => by
    unfold Rp at h ⊢
    obtain ⟨a, vs, e, s, r⟩ := h
    refine ⟨a, vs, e, ?_, Rps.mono f hS hO r⟩
    rcases s with s | ⟨o, s⟩ | ⟨n, s⟩
    · exact .inl s
    · refine .inr (.inl ⟨o, f.fr _ _ s .frz fun z => ?_⟩)
      obtain ⟨u, q, w⟩ := f.ls a z
      rw [s] at q; cases q
      rcases w with ⟨_, w⟩ | ⟨_, _, _, w⟩ <;> cases w
    · exact n.elim
  | .emp, v, h => by
    unfold Rp at h ⊢
    obtain ⟨a, e, s⟩ := h
    refine ⟨a, e, f.fr _ _ s .dK fun z => ?_⟩
    obtain ⟨u, q, w⟩ := f.ls a z
    rw [s] at q; cases q
    rcases w with ⟨_, w⟩ | ⟨_, _, _, w⟩ <;> cases w
  | .dic ds, v, h => by
    unfold Rp at h ⊢
    obtain ⟨a, vs, e, n, s, k, r⟩ := h
    refine ⟨a, vs, e, fun z => ?_, s.fr f (fun z => n (hS a z)), k, Rps.mono f hS hO r⟩
    rcases hO a z with q | q
    · exact n q
    · obtain ⟨_, s⟩ := s
      rw [s] at q; cases q
theorem Rps.mono {S : Addr → Prop} (f : Fr S H H') (hS : ∀ a, S a → O a) (hO : ∀ a, O' a → O a ∨ H a = none) : ∀ {ds : List D} {vs : List V}, Rps K O H ds vs → Rps K O' H' ds vs
  | [], vs, h => by unfold Rps at h ⊢; exact h
  | d :: ds, vs, h => by
    unfold Rps at h ⊢
    obtain ⟨v, r, e, h1, h2⟩ := h
    exact ⟨v, r, e, Rp.mono f hS hO h1, Rps.mono f hS hO h2⟩
end
theorem Rps.nil : Rps K O H [] [] := by unfold Rps; rfl
theorem Rps.cons {d : D} {v : V} {ds : List D} {vs : List V} (h : Rp K O H d v) (r : Rps K O H ds vs) : Rps K O H (d :: ds) (v :: vs) := by
  unfold Rps
  exact ⟨v, vs, rfl, h, r⟩
theorem Rps.uncons {d : D} {ds : List D} {vs : List V} (h : Rps K O H (d :: ds) vs) : ∃ v r, vs = v :: r ∧ Rp K O H d v ∧ Rps K O H ds r := by
  unfold Rps at h
  exact h
theorem Rps.unnil {vs : List V} (h : Rps K O H [] vs) : vs = [] := by
  unfold Rps at h
  exact h
theorem Rps.len : ∀ {ds : List D} {vs : List V}, Rps K O H ds vs → ds.length = vs.length
  | [], vs, h => by rw [h.unnil]; rfl
  | d :: ds, vs, h => by
    obtain ⟨v, r, e, _, h2⟩ := h.uncons
    rw [e, List.length_cons, List.length_cons, h2.len]
theorem Rps.get : ∀ {ds : List D} {vs : List V} {i : Nat} {d : D}, Rps K O H ds vs → ds[i]? = some d → ∃ v, vs[i]? = some v ∧ Rp K O H d v
  | [], _, _, _, _, e => by simp at e
  | x :: ds, vs, 0, d, h, e => by
    obtain ⟨v, r, e1, h1, _⟩ := h.uncons
    simp at e
    subst e e1
    exact ⟨v, rfl, h1⟩
  | x :: ds, vs, i + 1, d, h, e => by
    obtain ⟨v, r, e1, _, h2⟩ := h.uncons
    subst e1
    obtain ⟨u, q1, q2⟩ := h2.get (i := i) (by simpa using e)
    exact ⟨u, by simpa using q1, q2⟩
theorem Rps.app : ∀ {ds es : List D} {vs us : List V}, Rps K O H ds vs → Rps K O H es us → Rps K O H (ds ++ es) (vs ++ us)
  | [], es, vs, us, h, q => by rw [h.unnil]; exact q
  | d :: ds, es, vs, us, h, q => by
    obtain ⟨v, r, e1, h1, h2⟩ := h.uncons
    subst e1
    exact .cons h1 (h2.app q)
theorem Rps.take : ∀ (n : Nat) {ds : List D} {vs : List V}, Rps K O H ds vs → Rps K O H (ds.take n) (vs.take n)
  | 0, ds, vs, h => by simpa using Rps.nil
  | n + 1, [], vs, h => by rw [h.unnil]; simpa using Rps.nil
  | n + 1, d :: ds, vs, h => by
    obtain ⟨v, r, e1, h1, h2⟩ := h.uncons
    subst e1
    exact .cons h1 (h2.take n)
theorem Rps.drop : ∀ (n : Nat) {ds : List D} {vs : List V}, Rps K O H ds vs → Rps K O H (ds.drop n) (vs.drop n)
  | 0, ds, vs, h => by simpa using h
  | n + 1, [], vs, h => by rw [h.unnil]; simpa using Rps.nil
  | n + 1, d :: ds, vs, h => by
    obtain ⟨v, r, e1, h1, h2⟩ := h.uncons
    subst e1
    exact h2.drop n
theorem Rps.set {d : D} {v : V} (q : Rp K O H d v) : ∀ (n : Nat) {ds : List D} {vs : List V}, Rps K O H ds vs → Rps K O H (ds.set n d) (vs.set n v)
  | n, [], vs, h => by rw [h.unnil]; simpa using Rps.nil
  | 0, x :: ds, vs, h => by
    obtain ⟨u, r, e1, h1, h2⟩ := h.uncons
    subst e1
    exact .cons q h2
  | n + 1, x :: ds, vs, h => by
    obtain ⟨u, r, e1, h1, h2⟩ := h.uncons
    subst e1
    exact .cons h1 (h2.set q n)
theorem Rps.ints : ∀ (ns : List Int), Rps K O H (ns.map D.int) (ns.map V.int)
  | [] => .nil
  | n :: ns => .cons (by unfold Rp; rfl) (Rps.ints ns)

theorem Rpo.mono {S : Addr → Prop} (f : Fr S H H') (hS : ∀ a, S a → O a) (hO : ∀ a, O' a → O a ∨ H a = none) {m : Bool} {ds : List D} {vs : List V} (h : Rpo K O H m ds vs) : Rpo K O' H' m ds vs := by
  unfold Rpo at h ⊢
  cases m with
  | true => exact ⟨h.1, Rps.mono f hS hO h.2⟩
  | false => exact Rps.mono f hS hO h
/-! ### slots -/
/-- the tables of code objects that may grow, with the names of what they hold -/
class TabT where
  T : List (Addr × Str)
/-- where no table plays a part -/
instance (priority := 10) tab0 : TabT := ⟨[]⟩
theorem tabs_but {T : List (Addr × Str)} (t : LamX.Tabs T H) (e : ∀ b o, H b = some o → ¬ Wr o → H' b = some o) : LamX.Tabs T H' := fun p hp => by
  obtain ⟨ps, h1, h2, h3⟩ := t p hp
  refine ⟨ps, e _ _ h1 (fun z => by rcases z with ⟨_, z⟩ | ⟨_, _, _, z⟩ <;> cases z), h2, fun pos cv hc => ?_⟩
  obtain ⟨c, e1, e2⟩ := h3 pos cv hc
  exact ⟨c, e1, e _ _ e2 code_ne⟩
theorem tabs_wr {T : List (Addr × Str)} (t : LamX.Tabs T H) {a : Addr} {o u : HO} (h : H a = some o) (w : Wr o) : LamX.Tabs T (upd H a u) := tabs_but t fun b x q n => by
  rw [upd_ne (fun z => n (by rw [z, h] at q; cases q; exact w))]
  exact q
theorem tabs_new {T : List (Addr × Str)} (t : LamX.Tabs T H) {p : Addr} {o : HO} (hp : H p = none) : LamX.Tabs T (upd H p o) := t.ext fun b u q => by
  rw [upd_ne (ne_of_none q hp)]
  exact q
variable [TabT]
def OwnAt (e : Env) (σ : L2.St) (a : Addr) : Prop := ∃ (i : Nat) (m : Bool) (ds : List D), e[i]? = some (some (Sl.ow m ds)) ∧ σ[i]? = some (some (V.ref a))
/-- what must not be among a value's lists -/
def Of (B : Addr → Prop) (e : Env) (σ : L2.St) : Addr → Prop := fun a => B a ∨ OwnAt e σ a
structure RSt (K : PySem.W.Frag) (B : Addr → Prop) (H : Hp) (e : Env) (σ : L2.St) : Prop where
  len : e.length = σ.length
  val : ∀ (i : Nat) (d : D), e[i]? = some (some (Sl.val d)) → ∃ v, σ[i]? = some (some v) ∧ Rp K (Of B e σ) H d v
  own : ∀ (i : Nat) {m : Bool} (ds : List D), e[i]? = some (some (Sl.ow m ds)) → ∃ a vs, σ[i]? = some (some (V.ref a)) ∧ ¬ B a ∧ LOs H a m ds vs ∧ Rpo K (Of B e σ) H m ds vs
  inj : ∀ (i j : Nat) {m n : Bool} (ds es : List D) (a : Addr), e[i]? = some (some (Sl.ow m ds)) → e[j]? = some (some (Sl.ow n es)) → σ[i]? = some (some (V.ref a)) → σ[j]? = some (some (V.ref a)) → i = j
  bnd : ∀ a, B a → ∃ o, H a = some o ∧ Wr o
  tb : LamX.Tabs TabT.T H
structure Stp (H : Hp) (e : Env) (σ : L2.St) (H' : Hp) (e' : Env) (σ' : L2.St) : Prop where
  fr : ∀ a o, H a = some o → NT o → ¬ OwnAt e σ a → H' a = some o
  al : ∀ a, H a ≠ none → H' a ≠ none
  sub : ∀ a, OwnAt e' σ' a → OwnAt e σ a ∨ H a = none
theorem Stp.refl {e : Env} {σ : L2.St} : Stp H e σ H e σ := ⟨fun _ _ h _ _ => h, fun _ h => h, fun _ h => .inl h⟩
theorem Stp.trans {H1 H2 : Hp} {e e1 e2 : Env} {σ σ1 σ2 : L2.St} (s : Stp H e σ H1 e1 σ1) (t : Stp H1 e1 σ1 H2 e2 σ2) : Stp H e σ H2 e2 σ2 where
  fr := fun a o h tt n => t.fr a o (s.fr a o h tt n) tt fun z => by
    rcases s.sub a z with q | q
    · exact n q
    · rw [q] at h; cases h
  al := fun a h => t.al a (s.al a h)
  sub := fun a h => by
    rcases t.sub a h with q | q
    · exact s.sub a q
    · refine .inr ?_
      cases z : H a with
      | none => rfl
      | some o => exact absurd q (s.al a (by rw [z]; exact fun w => by cases w))
section
variable {B : Addr → Prop} {e e' : Env} {σ σ' : L2.St}
theorem RSt.ls (r : RSt K B H e σ) {a : Addr} (h : OwnAt e σ a) : ∃ o, H a = some o ∧ Wr o := by
  obtain ⟨i, m, ds, h1, h2⟩ := h
  obtain ⟨b, vs, q1, _, q2, _⟩ := r.own i ds h1
  rw [h2] at q1
  cases q1
  exact q2.at
/-- a slot's own list -/
theorem RSt.ownL (r : RSt K B H e σ) (i : Nat) (ds : List D) (h : e[i]? = some (some (Sl.own ds))) : ∃ a vs, σ[i]? = some (some (V.ref a)) ∧ ¬ B a ∧ H a = some (.lst vs) ∧ Rps K (Of B e σ) H ds vs := let ⟨a, vs, h1, h2, h3, h4⟩ := r.own i ds h; ⟨a, vs, h1, h2, h3.lst, h4⟩
theorem RSt.ofs (r : RSt K B H e σ) {a : Addr} (h : Of B e σ a) : ∃ o, H a = some o ∧ Wr o := by
  rcases h with h | h
  · exact r.bnd a h
  · exact r.ls h
theorem RSt.frame (r : RSt K B H e σ) {e' : Env} {σ' : L2.St} (s : Stp H e σ H' e' σ') : Fr (OwnAt e σ) H H' := ⟨s.fr, fun _ q => r.ls q⟩
theorem Stp.of_ (s : Stp H e σ H' e' σ') (a : Addr) (h : Of B e' σ' a) : Of B e σ a ∨ H a = none := by
  rcases h with h | h
  · exact .inl (.inl h)
  · rcases s.sub a h with q | q
    · exact .inl (.inr q)
    · exact .inr q
/-- values of before, behind a step -/
theorem RSt.keep (r : RSt K B H e σ) (s : Stp H e σ H' e' σ') {d : D} {v : V} (h : Rp K (Of B e σ) H d v) : Rp K (Of B e' σ') H' d v :=
  Rp.mono (r.frame s) (fun a q => .inr q) s.of_ h
theorem RSt.keeps (r : RSt K B H e σ) (s : Stp H e σ H' e' σ') {ds : List D} {vs : List V} (h : Rps K (Of B e σ) H ds vs) : Rps K (Of B e' σ') H' ds vs :=
  Rps.mono (r.frame s) (fun a q => .inr q) s.of_ h
theorem RSt.keepo (r : RSt K B H e σ) (s : Stp H e σ H' e' σ') {m : Bool} {ds : List D} {vs : List V} (h : Rpo K (Of B e σ) H m ds vs) : Rpo K (Of B e' σ') H' m ds vs :=
  Rpo.mono (r.frame s) (fun a q => .inr q) s.of_ h
theorem own_set_val {i j : Nat} {d : D} {m : Bool} {ds : List D} (h : (e.set i (some (Sl.val d)))[j]? = some (some (Sl.ow m ds))) : j ≠ i ∧ e[j]? = some (some (Sl.ow m ds)) := by
  by_cases q : i = j
  · subst q
    rw [List.getElem?_set] at h
    simp at h
  · rw [List.getElem?_set_ne q] at h
    exact ⟨fun z => q z.symm, h⟩
/-- an own list, an own dict, as a value -/
theorem Rpo.un {K : PySem.W.Frag} {O : Addr → Prop} {a : Addr} {m : Bool} {ds : List D} {vs : List V} (n : ¬ O a) (s : LOs H a m ds vs) (h : Rpo K O H m ds vs) : Rp K O H (unD m ds) (V.ref a) := by
  cases m with
  | false =>
    unfold unD Rp
    exact ⟨a, vs, rfl, n, s.lst, h⟩
  | true =>
    unfold unD Rp
    exact ⟨a, vs, rfl, n, s, h.1, h.2⟩
/-- an own list is let known: it is a plain value from now on -/
theorem RSt.freeze (r : RSt K B H e σ) {i : Nat} {m : Bool} {ds : List D} (h : e[i]? = some (some (Sl.ow m ds))) :
    RSt K B H (e.set i (some (Sl.val (unD m ds)))) σ ∧ Stp H e σ H (e.set i (some (Sl.val (unD m ds)))) σ ∧ ∃ v, σ[i]? = some (some v) ∧ Rp K (Of B (e.set i (some (Sl.val (unD m ds)))) σ) H (unD m ds) v := by
  obtain ⟨a, vs, h1, h2, h3, h4⟩ := r.own i ds h
  have hi : i < e.length := (List.getElem?_eq_some_iff.mp h).1
  have sub : ∀ b, OwnAt (e.set i (some (Sl.val (unD m ds)))) σ b → OwnAt e σ b ∧ b ≠ a := fun b ⟨j, m', es, q1, q2⟩ => by
    obtain ⟨hj, q⟩ := own_set_val q1
    refine ⟨⟨j, m', es, q, q2⟩, fun z => hj ?_⟩
    subst z
    exact r.inj j i es ds b q h q2 h1
  have mono : ∀ {d : D} {v : V}, Rp K (Of B e σ) H d v → Rp K (Of B (e.set i (some (Sl.val (unD m ds)))) σ) H d v := fun {d v} q =>
    Rp.mono (S := fun _ => False) ⟨fun _ _ q _ _ => q, fun _ z => z.elim⟩ (fun _ z => z.elim) (fun b q => .inl (q.elim .inl fun z => .inr (sub b z).1)) q
  have monos : ∀ {n : Bool} {es : List D} {us : List V}, Rpo K (Of B e σ) H n es us → Rpo K (Of B (e.set i (some (Sl.val (unD m ds)))) σ) H n es us := fun {n es us} q =>
    Rpo.mono (S := fun _ => False) ⟨fun _ _ q _ _ => q, fun _ z => z.elim⟩ (fun _ z => z.elim) (fun b q => .inl (q.elim .inl fun z => .inr (sub b z).1)) q
  have me : Rp K (Of B (e.set i (some (Sl.val (unD m ds)))) σ) H (unD m ds) (V.ref a) := by
    refine (monos h4).un (fun z => ?_) h3
    rcases z with z | z
    · exact h2 z
    · exact (sub a z).2 rfl
  refine ⟨⟨by rw [List.length_set]; exact r.len, fun j d q => ?_, fun j _ es q => ?_, fun j k _ _ es fs b q1 q2 q3 q4 => ?_, r.bnd, r.tb⟩, ⟨fun _ _ q _ _ => q, fun _ q => q, fun b q => .inl (sub b q).1⟩, .ref a, h1, me⟩
  · by_cases hj : i = j
    · subst hj
      rw [List.getElem?_set_self hi] at q
      cases q
      exact ⟨.ref a, h1, me⟩
    · rw [List.getElem?_set_ne hj] at q
      obtain ⟨v, w1, w2⟩ := r.val j d q
      exact ⟨v, w1, mono w2⟩
  · obtain ⟨hj, q'⟩ := own_set_val q
    obtain ⟨b, us, w1, w2, w3, w4⟩ := r.own j es q'
    exact ⟨b, us, w1, w2, w3, monos w4⟩
  · exact r.inj j k es fs b (own_set_val q1).2 (own_set_val q2).2 q3 q4
/-- a name stored -/
theorem RSt.put (r : RSt K B H e σ) {i : Nat} {d : D} {v : V} (h : Rp K (Of B e σ) H d v) : RSt K B H (e.set i (some (Sl.val d))) (σ.set i (some v)) ∧ Stp H e σ H (e.set i (some (Sl.val d))) (σ.set i (some v)) := by
  have sub : ∀ b, OwnAt (e.set i (some (Sl.val d))) (σ.set i (some v)) b → OwnAt e σ b := fun b ⟨j, m, es, q1, q2⟩ => by
    obtain ⟨hj, q⟩ := own_set_val q1
    rw [List.getElem?_set_ne (Ne.symm hj)] at q2
    exact ⟨j, m, es, q, q2⟩
  have mono : ∀ {d' : D} {v' : V}, Rp K (Of B e σ) H d' v' → Rp K (Of B (e.set i (some (Sl.val d))) (σ.set i (some v))) H d' v' := fun {d' v'} q =>
    Rp.mono (S := fun _ => False) ⟨fun _ _ q _ _ => q, fun _ z => z.elim⟩ (fun _ z => z.elim) (fun b q => .inl (q.elim .inl fun z => .inr (sub b z))) q
  have monos : ∀ {n : Bool} {es : List D} {us : List V}, Rpo K (Of B e σ) H n es us → Rpo K (Of B (e.set i (some (Sl.val d))) (σ.set i (some v))) H n es us := fun {n es us} q =>
    Rpo.mono (S := fun _ => False) ⟨fun _ _ q _ _ => q, fun _ z => z.elim⟩ (fun _ z => z.elim) (fun b q => .inl (q.elim .inl fun z => .inr (sub b z))) q
  refine ⟨⟨by rw [List.length_set, List.length_set]; exact r.len, fun j d' q => ?_, fun j _ es q => ?_, fun j k _ _ es fs b q1 q2 q3 q4 => ?_, r.bnd, r.tb⟩, ⟨fun _ _ q _ _ => q, fun _ q => q, fun b q => .inl (sub b q)⟩⟩
  · by_cases hj : i = j
    · subst hj
      have hi : i < e.length := by
        have := (List.getElem?_eq_some_iff.mp q).1
        rwa [List.length_set] at this
      rw [List.getElem?_set_self hi] at q
      cases q
      exact ⟨v, by rw [List.getElem?_set_self (by rw [← r.len]; exact hi)], mono h⟩
    · rw [List.getElem?_set_ne hj] at q
      obtain ⟨v', w1, w2⟩ := r.val j d' q
      exact ⟨v', by rw [List.getElem?_set_ne hj]; exact w1, mono w2⟩
  · obtain ⟨hj, q'⟩ := own_set_val q
    obtain ⟨b, us, w1, w2, w3, w4⟩ := r.own j es q'
    exact ⟨b, us, by rw [List.getElem?_set_ne (Ne.symm hj)]; exact w1, w2, w3, monos w4⟩
  · obtain ⟨hj, q1'⟩ := own_set_val q1
    obtain ⟨hk, q2'⟩ := own_set_val q2
    rw [List.getElem?_set_ne (Ne.symm hj)] at q3
    rw [List.getElem?_set_ne (Ne.symm hk)] at q4
    exact r.inj j k es fs b q1' q2' q3 q4
theorem own_set_own {i j : Nat} {m n : Bool} {ds es : List D} (h : (e.set i (some (Sl.ow m ds)))[j]? = some (some (Sl.ow n es))) : (j = i ∧ n = m ∧ es = ds ∧ i < e.length) ∨ (j ≠ i ∧ e[j]? = some (some (Sl.ow n es))) := by
  by_cases q : i = j
  · subst q
    rw [List.getElem?_set] at h
    simp at h
    exact .inl ⟨rfl, h.2.1.symm, h.2.2.symm, h.1⟩
  · rw [List.getElem?_set_ne q] at h
    exact .inr ⟨fun z => q z.symm, h⟩
/-- an own list, an own dict is written -/
theorem RSt.writeA (r : RSt K B H e σ) {i : Nat} {m : Bool} {ds es : List D} {a : Addr} {us : List V} {ob : Obj} (h : e[i]? = some (some (Sl.ow m ds))) (ha : σ[i]? = some (some (V.ref a))) (hr : Rpo K (Of B e σ) H m es us) :
    RSt K B (upd H a (LO a m es us ob)) (e.set i (some (Sl.ow m es))) σ ∧ Stp H e σ (upd H a (LO a m es us ob)) (e.set i (some (Sl.ow m es))) σ := by
  obtain ⟨a', vs, h1, h2, h3, h4⟩ := r.own i ds h
  rw [ha] at h1
  cases h1
  have hi : i < e.length := (List.getElem?_eq_some_iff.mp h).1
  have sub : ∀ b, OwnAt (e.set i (some (Sl.ow m es))) σ b → OwnAt e σ b := fun b ⟨j, n, fs, q1, q2⟩ => by
    rcases own_set_own q1 with ⟨rfl, rfl, rfl, _⟩ | ⟨_, q⟩
    · exact ⟨j, _, ds, h, q2⟩
    · exact ⟨j, n, fs, q, q2⟩
  have fr : Fr (fun b => b = a) H (upd H a (LO a m es us ob)) := ⟨fun b o q _ n => by rw [upd_ne n]; exact q, fun b z => by rw [z]; exact h3.at⟩
  have oa : ∀ b, b = a → Of B e σ b := fun b z => .inr ⟨i, m, ds, h, by rw [z]; exact ha⟩
  have mono : ∀ {d' : D} {v' : V}, Rp K (Of B e σ) H d' v' → Rp K (Of B (e.set i (some (Sl.ow m es))) σ) (upd H a (LO a m es us ob)) d' v' := fun {d' v'} q =>
    Rp.mono fr oa (fun b q => .inl (q.elim .inl fun z => .inr (sub b z))) q
  have monos : ∀ {n : Bool} {es' : List D} {us' : List V}, Rpo K (Of B e σ) H n es' us' → Rpo K (Of B (e.set i (some (Sl.ow m es))) σ) (upd H a (LO a m es us ob)) n es' us' := fun {n es' us'} q =>
    Rpo.mono fr oa (fun b q => .inl (q.elim .inl fun z => .inr (sub b z))) q
  refine ⟨⟨by rw [List.length_set]; exact r.len, fun j d q => ?_, fun j _ fs q => ?_, fun j k _ _ fs gs b q1 q2 q3 q4 => ?_, fun b q => ?_, (h3.at).elim fun _ w => tabs_wr r.tb w.1 w.2⟩, ⟨fun b o q _ n => ?_, fun b q => ?_, fun b q => .inl (sub b q)⟩⟩
  · by_cases hj : i = j
    · subst hj
      rw [List.getElem?_set_self hi] at q
      cases q
    · rw [List.getElem?_set_ne hj] at q
      obtain ⟨v, w1, w2⟩ := r.val j d q
      exact ⟨v, w1, mono w2⟩
  · rcases own_set_own q with ⟨rfl, rfl, rfl, _⟩ | ⟨hj, q'⟩
    · exact ⟨a, us, ha, h2, .same, monos hr⟩
    · obtain ⟨b, ws, w1, w2, w3, w4⟩ := r.own j fs q'
      have hb : b ≠ a := fun z => hj (r.inj j i fs ds a q' h (by rw [w1, z]) ha)
      exact ⟨b, ws, w1, w2, w3.ne hb, monos w4⟩
  · have back : ∀ {j : Nat} {n : Bool} {fs : List D}, (e.set i (some (Sl.ow m es)))[j]? = some (some (Sl.ow n fs)) → ∃ gs, e[j]? = some (some (Sl.ow n gs)) := fun {j n fs} q => by
      rcases own_set_own q with ⟨rfl, rfl, rfl, _⟩ | ⟨_, q⟩
      · exact ⟨_, h⟩
      · exact ⟨_, q⟩
    obtain ⟨_, z1⟩ := back q1
    obtain ⟨_, z2⟩ := back q2
    exact r.inj j k _ _ b z1 z2 q3 q4
  · by_cases hb : b = a
    · exact ⟨_, by rw [hb]; exact upd_same, .LO⟩
    · obtain ⟨ws, w, w'⟩ := r.bnd b q
      exact ⟨ws, by rw [upd_ne hb]; exact w, w'⟩
  · have hb : b ≠ a := fun z => n ⟨i, m, ds, h, by rw [z]; exact ha⟩
    rw [upd_ne hb]
    exact q
  · by_cases hb : b = a
    · rw [hb, upd_same]
      exact fun z => by cases z
    · rw [upd_ne hb]
      exact q
/-- an own list is written -/
theorem RSt.write (r : RSt K B H e σ) {i : Nat} {ds es : List D} {a : Addr} {us : List V} (h : e[i]? = some (some (Sl.own ds))) (ha : σ[i]? = some (some (V.ref a))) (hr : Rps K (Of B e σ) H es us) :
    RSt K B (upd H a (.lst us)) (e.set i (some (Sl.own es))) σ ∧ Stp H e σ (upd H a (.lst us)) (e.set i (some (Sl.own es))) σ := r.writeA (m := false) (ob := noOb) h ha hr
/-- a new object is laid -/
theorem RSt.laid (r : RSt K B H e σ) {p : Addr} {o : HO} (hp : H p = none) : RSt K B (upd H p o) e σ ∧ Stp H e σ (upd H p o) e σ := by
  have fr : Fr (fun _ => False) H (upd H p o) := ⟨fun b u q _ _ => by rw [upd_ne (ne_of_none q hp)]; exact q, fun _ z => z.elim⟩
  have mono : ∀ {d' : D} {v' : V}, Rp K (Of B e σ) H d' v' → Rp K (Of B e σ) (upd H p o) d' v' := fun {d' v'} q => Rp.mono fr (fun _ z => z.elim) (fun b q => .inl q) q
  have monos : ∀ {n : Bool} {es' : List D} {us' : List V}, Rpo K (Of B e σ) H n es' us' → Rpo K (Of B e σ) (upd H p o) n es' us' := fun {n es' us'} q => Rpo.mono fr (fun _ z => z.elim) (fun b q => .inl q) q
  refine ⟨⟨r.len, fun j d q => ?_, fun j _ fs q => ?_, r.inj, fun b q => ?_, tabs_new r.tb hp⟩, ⟨fun b u q tt _ => fr.fr b u q tt fun z => z, fun b q => ?_, fun b q => .inl q⟩⟩
  · obtain ⟨v, w1, w2⟩ := r.val j d q
    exact ⟨v, w1, mono w2⟩
  · obtain ⟨b, ws, w1, w2, w3, w4⟩ := r.own j fs q
    exact ⟨b, ws, w1, w2, w3.fr fr fun z => z, monos w4⟩
  · obtain ⟨ws, w, w'⟩ := r.bnd b q
    exact ⟨ws, fr.fr _ _ w w'.nt fun z => z, w'⟩
  · unfold upd
    split
    · exact fun z => by cases z
    · exact q
/-- a new list, a new dict becomes a slot's own -/
theorem RSt.takeA (r : RSt K B H e σ) {i : Nat} {m : Bool} {ds : List D} {p : Addr} {us : List V} {ob : Obj} (hp : H p = none) (hr : Rpo K (Of B e σ) H m ds us) :
    RSt K B (upd H p (LO p m ds us ob)) (e.set i (some (Sl.ow m ds))) (σ.set i (some (V.ref p))) ∧ Stp H e σ (upd H p (LO p m ds us ob)) (e.set i (some (Sl.ow m ds))) (σ.set i (some (V.ref p))) := by
  have sub : ∀ b, OwnAt (e.set i (some (Sl.ow m ds))) (σ.set i (some (V.ref p))) b → OwnAt e σ b ∨ b = p := fun b ⟨j, n, fs, q1, q2⟩ => by
    rcases own_set_own q1 with ⟨rfl, rfl, rfl, _⟩ | ⟨hj, q⟩
    · rw [List.getElem?_set] at q2
      simp at q2
      exact .inr q2.2.symm
    · rw [List.getElem?_set_ne (Ne.symm hj)] at q2
      exact .inl ⟨j, n, fs, q, q2⟩
  have fr : Fr (fun _ => False) H (upd H p (LO p m ds us ob)) := ⟨fun b u q _ _ => by rw [upd_ne (ne_of_none q hp)]; exact q, fun _ z => z.elim⟩
  have ofs : ∀ b, Of B (e.set i (some (Sl.ow m ds))) (σ.set i (some (V.ref p))) b → Of B e σ b ∨ H b = none := fun b q => by
    rcases q with q | q
    · exact .inl (.inl q)
    · rcases sub b q with z | z
      · exact .inl (.inr z)
      · exact .inr (by rw [z]; exact hp)
  have mono : ∀ {d' : D} {v' : V}, Rp K (Of B e σ) H d' v' → Rp K (Of B (e.set i (some (Sl.ow m ds))) (σ.set i (some (V.ref p)))) (upd H p (LO p m ds us ob)) d' v' := fun {d' v'} q => Rp.mono fr (fun _ z => z.elim) ofs q
  have monos : ∀ {n : Bool} {es' : List D} {us' : List V}, Rpo K (Of B e σ) H n es' us' → Rpo K (Of B (e.set i (some (Sl.ow m ds))) (σ.set i (some (V.ref p)))) (upd H p (LO p m ds us ob)) n es' us' := fun {n es' us'} q => Rpo.mono fr (fun _ z => z.elim) ofs q
  refine ⟨⟨by rw [List.length_set, List.length_set]; exact r.len, fun j d q => ?_, fun j _ fs q => ?_, fun j k _ _ fs gs b q1 q2 q3 q4 => ?_, fun b q => ?_, tabs_new r.tb hp⟩, ⟨fun b u q tt _ => fr.fr b u q tt fun z => z, fun b q => ?_, fun b q => (sub b q).imp id fun z => by rw [z]; exact hp⟩⟩
  · by_cases hj : i = j
    · subst hj
      have hi : i < e.length := by
        have := (List.getElem?_eq_some_iff.mp q).1
        rwa [List.length_set] at this
      rw [List.getElem?_set_self hi] at q
      cases q
    · rw [List.getElem?_set_ne hj] at q
      obtain ⟨v, w1, w2⟩ := r.val j d q
      exact ⟨v, by rw [List.getElem?_set_ne hj]; exact w1, mono w2⟩
  · rcases own_set_own q with ⟨rfl, rfl, rfl, hi⟩ | ⟨hj, q'⟩
    · refine ⟨p, us, by rw [List.getElem?_set_self (by rw [← r.len]; exact hi)], fun z => ?_, .same, monos hr⟩
      obtain ⟨ws, w, _⟩ := r.bnd p z
      rw [hp] at w; cases w
    · obtain ⟨b, ws, w1, w2, w3, w4⟩ := r.own j fs q'
      exact ⟨b, ws, by rw [List.getElem?_set_ne (Ne.symm hj)]; exact w1, w2, w3.fr fr fun z => z, monos w4⟩
  · have neq : ∀ {j : Nat} {n : Bool} {fs : List D} {b : Addr}, j ≠ i → (e.set i (some (Sl.ow m ds)))[j]? = some (some (Sl.ow n fs)) → (σ.set i (some (V.ref p)))[j]? = some (some (V.ref b)) → b ≠ p := fun {j n fs b} hj q1 q2 z => by
      rcases own_set_own q1 with ⟨w, _⟩ | ⟨_, q⟩
      · exact hj w
      · rw [List.getElem?_set_ne (Ne.symm hj)] at q2
        obtain ⟨ws, w, _⟩ := r.ls ⟨j, n, fs, q, q2⟩
        rw [z, hp] at w; cases w
    have isp : ∀ {b : Addr}, (σ.set i (some (V.ref p)))[i]? = some (some (V.ref b)) → b = p := fun {b} q => by
      rw [List.getElem?_set] at q
      simp at q
      exact q.2.symm
    by_cases hj : j = i
    · by_cases hk : k = i
      · rw [hj, hk]
      · exact absurd (by rw [hj] at q3; exact isp q3) (neq hk q2 q4)
    · by_cases hk : k = i
      · exact absurd (by rw [hk] at q4; exact isp q4) (neq hj q1 q3)
      · rcases own_set_own q1 with ⟨w, _⟩ | ⟨_, z1⟩
        · exact absurd w hj
        rcases own_set_own q2 with ⟨w, _⟩ | ⟨_, z2⟩
        · exact absurd w hk
        rw [List.getElem?_set_ne (Ne.symm hj)] at q3
        rw [List.getElem?_set_ne (Ne.symm hk)] at q4
        exact r.inj j k _ _ b z1 z2 q3 q4
  · obtain ⟨ws, w, w'⟩ := r.bnd b q
    exact ⟨ws, fr.fr _ _ w w'.nt fun z => z, w'⟩
  · unfold upd
    split
    · exact fun z => by cases z
    · exact q
/-- a new list becomes a slot's own -/
theorem RSt.take (r : RSt K B H e σ) {i : Nat} {ds : List D} {p : Addr} {us : List V} (hp : H p = none) (hr : Rps K (Of B e σ) H ds us) :
    RSt K B (upd H p (.lst us)) (e.set i (some (Sl.own ds))) (σ.set i (some (V.ref p))) ∧ Stp H e σ (upd H p (.lst us)) (e.set i (some (Sl.own ds))) (σ.set i (some (V.ref p))) := r.takeA (m := false) (ob := noOb) hp hr
end
end
end Ev
set_option Elab.async false
set_option linter.all false
set_option maxRecDepth 100000
set_option maxHeartbeats 4000000
set_option autoImplicit false
/-! Ev1b: dicts: what stands there, looked up, stored. -/
namespace Ev
open PySem PySem.Spec PyProof.Rows L2
mutual
theorem nk_depth : ∀ d : D, (D.nk d).depth = D.dp d
  | .tup ds => by simp only [D.nk, NestedKey.depth, D.dp]; rw [nks_depth ds]
  | .non => rfl | .bl _ => rfl | .int _ => rfl | .str _ => rfl | .lst _ => rfl | .fz _ => rfl | .emp => rfl | .dic _ => rfl
theorem nks_depth : ∀ ds : List D, NestedKey.depthAll (D.nks ds) = D.dps ds
  | [] => rfl
  | d :: ds => by simp only [D.nks, NestedKey.depthAll, D.dps]; rw [nk_depth d, nks_depth ds]
end
mutual
theorem nk_hash (w : World) : ∀ d : D, d.pur = true → (D.nk d).hash w = d.hsh
  | .int i, _ => rfl
  | .tup ds, h => by
    simp only [D.nk, NestedKey.hash, D.hsh]
    rw [nks_hash w ds (by simpa [D.pur] using h)]
  | .non, h => by simp [D.pur] at h
  | .bl _, h => by simp [D.pur] at h
  | .str _, h => by simp [D.pur] at h
  | .lst _, h => by simp [D.pur] at h
  | .fz _, h => by simp [D.pur] at h
  | .emp, h => by simp [D.pur] at h
  | .dic _, h => by simp [D.pur] at h
theorem nks_hash (w : World) : ∀ ds : List D, D.purs ds = true → NestedKey.hashes w (D.nks ds) = D.hshs ds
  | [], _ => rfl
  | d :: ds, h => by
    simp only [D.purs, Bool.and_eq_true] at h
    simp only [D.nks, NestedKey.hashes, D.hshs]
    rw [nk_hash w d h.1, nks_hash w ds h.2]
end
mutual
theorem nk_eqv : ∀ a b : D, a.pur = true → b.pur = true → NestedKey.beq a.nk b.nk = D.eqv a b
  | .int i, .int j, _, _ => by simp only [D.nk, NestedKey.beq, D.eqv]
  | .tup xs, .tup ys, h, k => by
    simp only [D.nk, NestedKey.beq, D.eqv]
    exact nks_eqv xs ys (by simpa [D.pur] using h) (by simpa [D.pur] using k)
  | .int _, .tup _, _, _ => by simp only [D.nk, NestedKey.beq, D.eqv]
  | .tup _, .int _, _, _ => by simp only [D.nk, NestedKey.beq, D.eqv]
  | a, .non, _, k => by simp [D.pur] at k
  | a, .bl _, _, k => by simp [D.pur] at k
  | a, .str _, _, k => by simp [D.pur] at k
  | a, .lst _, _, k => by simp [D.pur] at k
  | a, .fz _, _, k => by simp [D.pur] at k
  | a, .emp, _, k => by simp [D.pur] at k
  | a, .dic _, _, k => by simp [D.pur] at k
  | .non, _, h, _ => by simp [D.pur] at h
  | .bl _, _, h, _ => by simp [D.pur] at h
  | .str _, _, h, _ => by simp [D.pur] at h
  | .lst _, _, h, _ => by simp [D.pur] at h
  | .fz _, _, h, _ => by simp [D.pur] at h
  | .emp, _, h, _ => by simp [D.pur] at h
  | .dic _, _, h, _ => by simp [D.pur] at h
theorem nks_eqv : ∀ as bs : List D, D.purs as = true → D.purs bs = true → NestedKey.beqAll (D.nks as) (D.nks bs) = D.eqvs as bs
  | [], [], _, _ => rfl
  | [], _ :: _, _, _ => rfl
  | _ :: _, [], _, _ => rfl
  | a :: as, b :: bs, h, k => by
    simp only [D.purs, Bool.and_eq_true] at h k
    simp only [D.nks, NestedKey.beqAll, D.eqvs]
    rw [nk_eqv a b h.1 k.1, nks_eqv as bs h.2 k.2]
end
theorem nk_eq {a b : D} (h : a.pur = true) (k : b.pur = true) : (a.nk = b.nk) ↔ D.eqv a b = true := by
  rw [← nk_eqv a b h k]
  exact ⟨fun e => by rw [e]; exact NestedKey.beq_self _, NestedKey.eq_of_beq _ _⟩
section
variable {X : Cx} {pins : List (Addr × Obj)} {σ : L2.St} {H : Hp} {s : Shared} {O : Addr → Prop}
mutual
theorem Rp.nest (I : Inv X pins σ H s) : ∀ {d : D} {v : V} {u : Value}, d.pur = true → Rp X.K O H d v → RelV v u → NestedIs s.heap d.nk u
  | .int i, v, u, _, h, r => by
    unfold Rp at h
    subst h
    obtain ⟨t, rfl⟩ := r
    exact .int i t
  | .tup ds, v, u, p, h, r => by
    unfold Rp at h
    obtain ⟨a, vs, rfl, hs, hr⟩ := h
    cases (show u = Value.ref a from r)
    obtain ⟨its, hv, ⟨o, h1, h2, n, h3⟩, _⟩ := I.tuple hs
    exact .tup h1 h2 h3 (by simpa using Rps.nest I (by simpa [D.pur] using p) hr hv)
  | .non, _, _, h, _, _ => by simp [D.pur] at h
  | .bl _, _, _, h, _, _ => by simp [D.pur] at h
  | .str _, _, _, h, _, _ => by simp [D.pur] at h
  | .lst _, _, _, h, _, _ => by simp [D.pur] at h
  | .fz _, _, _, h, _, _ => by simp [D.pur] at h
  | .emp, _, _, h, _, _ => by simp [D.pur] at h
  | .dic _, _, _, h, _, _ => by simp [D.pur] at h
theorem Rps.nest (I : Inv X pins σ H s) : ∀ {ds : List D} {vs : List V} {us : List Value}, D.purs ds = true → Rps X.K O H ds vs → Vals vs us → NestedAll s.heap (D.nks ds) us
  | [], vs, us, _, h, r => by
    rw [h.unnil] at r
    cases r
    exact .nil
  | d :: ds, vs, us, p, h, r => by
    obtain ⟨v, q, rfl, h1, h2⟩ := h.uncons
    simp only [D.purs, Bool.and_eq_true] at p
    cases r with
    | cons r1 r2 => exact .cons (Rp.nest I p.1 h1 r1) (Rps.nest I p.2 h2 r2)
end
end
/-! ### entries -/
abbrev XE := NestedKey × Addr × Value
/-- keys and values in turn, what stands for them, the entries -/
inductive Cor (K : PySem.W.Frag) (O : Addr → Prop) (H : Hp) : List D → List V → List XE → Prop
  | nil : Cor K O H [] [] []
  | cons {k d : D} {b : Addr} {v : V} {x : Value} {ds : List D} {vs : List V} {xs : List XE} : k.pur = true → D.dp k ≤ 8 → (∃ ks, k = .tup ks) → Rp K O H k (.ref b) → Rp K O H d v → RelV v x → Cor K O H ds vs xs → Cor K O H (k :: d :: ds) (.ref b :: v :: vs) ((k.nk, b, x) :: xs)
/-- behind a store -/
def putV (k : D) (kv x : V) : List D → List V → List V
  | a :: _ :: ds, ka :: va :: vs => if D.eqv a k = true then ka :: x :: vs else ka :: va :: putV k kv x ds vs
  | _, _ => [kv, x]
section
variable {K : PySem.W.Frag} {O : Addr → Prop} {H : Hp}
theorem Cor.keys {ds : List D} {vs : List V} {xs : List XE} (c : Cor K O H ds vs xs) : xs.map (·.1) = (keysD ds).map D.nk := by
  induction c with
  | nil => rfl
  | cons _ _ _ _ _ _ _ ih => simp [keysD, ih]
theorem Cor.ev {ds : List D} {vs : List V} {xs : List XE} (c : Cor K O H ds vs xs) : evn ds = true := by
  induction c with
  | nil => rfl
  | cons _ _ _ _ _ _ _ ih => exact ih
theorem Cor.rps {ds : List D} {vs : List V} {xs : List XE} (c : Cor K O H ds vs xs) : Rps K O H ds vs := by
  induction c with
  | nil => exact .nil
  | cons _ _ _ h1 h2 _ _ ih => exact .cons h1 (.cons h2 ih)
theorem Cor.kt {ds : List D} {vs : List V} {xs : List XE} (c : Cor K O H ds vs xs) : ∀ k ∈ keysD ds, ∃ ks, k = .tup ks ∧ D.purs ks = true ∧ D.dps ks < 8 := by
  induction c with
  | nil => exact fun k h => by cases h
  | @cons k d b v x ds vs xs hp hd ht _ _ _ _ ih =>
    intro y hy
    rcases List.mem_cons.mp hy with e | hy
    · subst e
      obtain ⟨ks, rfl⟩ := ht
      exact ⟨ks, rfl, by simpa [D.pur] using hp, by simp only [D.dp] at hd; omega⟩
    · exact ih y hy
theorem Cor.len {ds : List D} {vs : List V} {xs : List XE} (c : Cor K O H ds vs xs) : ds.length = 2 * xs.length := by
  induction c with
  | nil => rfl
  | cons _ _ _ _ _ _ _ ih => simp only [List.length_cons, ih]; omega
theorem Cor.elen {ds : List D} {vs : List V} {xs : List XE} (c : Cor K O H ds vs xs) : (ent ds vs).length = xs.length := by
  induction c with
  | nil => rfl
  | cons _ _ _ _ _ _ _ ih => simp only [ent, List.length_cons, ih]
theorem Cor.ents {P : Program} {w : World} {ds : List D} {vs : List V} {xs : List XE} (c : Cor K O H ds vs xs) : Paired DER (ent ds vs) (xs.map (entryOfKey (nestedKind P w))) := by
  induction c with
  | nil => exact .nil
  | @cons k d b v x ds vs xs hp _ _ _ _ hr _ ih =>
    simp only [ent, List.map_cons]
    refine .cons ⟨?_, rfl, hr⟩ ih
    exact nk_hash w k hp
theorem atKey_cons {p : XE} {r : List XE} {k : NestedKey} : atKey (p :: r) k = if p.1 = k then some p.2 else atKey r k := by
  unfold atKey
  rw [List.find?_cons]
  by_cases h : p.1 = k
  · simp [h]
  · simp [h]
theorem Cor.find {ds : List D} {vs : List V} {xs : List XE} (c : Cor K O H ds vs xs) {k : D} (hk : k.pur = true) : match lookD k ds with
    | some d => ∃ b v x, atKey xs k.nk = some (b, x) ∧ RelV v x ∧ Rp K O H d v
    | none => atKey xs k.nk = none := by
  induction c with
  | nil => rfl
  | @cons a d b v x ds vs xs hp _ _ _ hd hr _ ih =>
    simp only [lookD]
    rw [atKey_cons]
    by_cases q : D.eqv a k = true
    · rw [if_pos q, if_pos ((nk_eq hp hk).mpr q)]
      exact ⟨b, v, x, rfl, hr, hd⟩
    · rw [if_neg q, if_neg (fun z => q ((nk_eq hp hk).mp z))]
      exact ih
theorem storedH_cons {p : XE} {r : List XE} {k : NestedKey} {b : Addr} {x : Value} (hn : ((p :: r).map (·.1)).Nodup) : storedH (p :: r) k b x = if p.1 = k then (p.1, p.2.1, x) :: r else p :: storedH r k b x := by
  rw [List.map_cons, List.nodup_cons] at hn
  unfold storedH
  rw [atKey_cons]
  by_cases h : p.1 = k
  · rw [if_pos h, if_pos h]
    simp only [Option.isSome_some, if_true, List.map_cons]
    rw [map_putAt_of_not_mem r k x (by rw [← h]; exact hn.1), putAt, if_pos h]
  · rw [if_neg h, if_neg h]
    by_cases q : (atKey r k).isSome = true
    · rw [if_pos q, if_pos q, List.map_cons, putAt, if_neg h]
    · rw [if_neg q, if_neg q]
      rfl
theorem Cor.put {ds : List D} {vs : List V} {xs : List XE} (c : Cor K O H ds vs xs) (hn : (xs.map (·.1)).Nodup) {k d : D} {b : Addr} {v : V} {x : Value} (hk : k.pur = true) (hd : D.dp k ≤ 8) (ht : ∃ ks, k = .tup ks) (h1 : Rp K O H k (.ref b)) (h2 : Rp K O H d v) (hr : RelV v x) :
    Cor K O H (putD k d ds) (putV k (.ref b) v ds vs) (storedH xs k.nk b x) := by
  induction c with
  | nil => exact .cons hk hd ht h1 h2 hr .nil
  | @cons a d' b' v' x' ds vs xs hp hd' ht' ha hd2 hr' c ih =>
    rw [storedH_cons hn]
    simp only [putD, putV]
    by_cases q : D.eqv a k = true
    · rw [if_pos q, if_pos q, if_pos ((nk_eq hp hk).mpr q)]
      exact .cons hp hd' ht' ha h2 hr c
    · rw [if_neg q, if_neg q, if_neg (fun z => q ((nk_eq hp hk).mp z))]
      rw [List.map_cons, List.nodup_cons] at hn
      exact .cons hp hd' ht' ha hd2 hr' (ih hn.2)
theorem putD_len (k x : D) : ∀ ds : List D, evn ds = true → (putD k x ds).length ≤ ds.length + 2
  | [], _ => by simp [putD]
  | [_], h => by cases h
  | a :: v :: r, h => by
    simp only [putD]
    split
    · simp
    · have := putD_len k x r h
      simp only [List.length_cons]
      omega
end
section
variable {X : Cx} {pins : List (Addr × Obj)} {σ : L2.St} {H : Hp} {s : Shared} {O : Addr → Prop}
theorem dic_cor (I : Inv X pins σ H s) : ∀ {ds : List D} {vs : List V} {es : List DictEntry}, evn ds = true → (∀ k ∈ keysD ds, ∃ ks, k = .tup ks ∧ D.purs ks = true ∧ D.dps ks < 8) → Rps X.K O H ds vs → Paired DER (ent ds vs) es →
    ∃ xs : List XE, es = xs.map (entryOfKey (nestedKind X.prog X.w)) ∧ (∀ x ∈ xs, (nestedKind X.prog X.w).is s.heap x.1 x.2.1) ∧ Cor X.K O H ds vs xs
  | [], vs, es, _, _, r, p => by
    rw [r.unnil] at p ⊢
    cases p
    exact ⟨[], rfl, (fun _ h => absurd h List.not_mem_nil), Cor.nil⟩
  | [_], _, _, h, _, _, _ => by cases h
  | k :: d :: ds, vs, es, he, hk, r, p => by
    obtain ⟨kv, r1, rfl, q1, q2⟩ := r.uncons
    obtain ⟨v, r2, rfl, q3, q4⟩ := q2.uncons
    obtain ⟨ks, rfl, kp, kd⟩ := hk k List.mem_cons_self
    simp only [ent] at p
    cases p with
    | @cons _ e _ es' p1 p2 =>
      obtain ⟨xs, e1, e2, e3⟩ := dic_cor I (ds := ds) he (fun y hy => hk y (List.mem_cons_of_mem _ hy)) q4 p2
      have q1' := q1
      unfold Rp at q1'
      obtain ⟨b, _, rfl, _, _⟩ := q1'
      obtain ⟨p1, p3, p4⟩ := p1
      have hp : D.pur (.tup ks) = true := by simpa [D.pur] using kp
      have p3' : e.key = .ref b := p3
      have dp : D.dp (.tup ks) ≤ 8 := by simp only [D.dp]; omega
      refine ⟨((D.tup ks).nk, b, e.val) :: xs, ?_, ?_, .cons hp dp ⟨ks, rfl⟩ q1 q3 p4 e3⟩
      · rw [List.map_cons, ← e1]
        congr 1
        obtain ⟨eh, ek, ev⟩ := e
        simp only at p1 p3'
        unfold entryOfKey
        simp only
        rw [p3', p1]
        congr 1
        exact (nk_hash X.w _ hp).symm
      · intro y hy
        rcases List.mem_cons.mp hy with z | hy
        · rw [z]
          exact ⟨Rp.nest I hp q1 rfl, by rw [nk_depth]; exact dp⟩
        · exact e2 y hy
theorem fit_kt {k : D} {ds : List D} (ok : DOk ds) (f : fitD k ds = true) (ht : isIntD k = false) : k.pur = true ∧ D.dp k ≤ 8 ∧ (∃ ks, k = .tup ks) ∧ ∀ y ∈ keysD ds, ∃ ks, y = .tup ks ∧ D.purs ks = true ∧ D.dps ks < 8 := by
  cases k with
  | tup xs =>
    simp only [fitD, Bool.and_eq_true, decide_eq_true_eq] at f
    refine ⟨by simpa [D.pur] using f.1, by simp only [D.dp]; omega, ⟨xs, rfl⟩, ?_⟩
    rcases ok.kd with q | q
    · intro y hy
      obtain ⟨i, rfl⟩ := q y hy
      have := List.all_eq_true.mp f.2.2 _ hy
      simp [isIntD] at this
    · exact q
  | int _ => cases ht
  | _ => cases f
/-- the dict at a, as the library tells it -/
theorem dic_at (I : Inv X pins σ H s) {a : Addr} {ds : List D} {vs : List V} (ha : DicAt H a (ent ds vs)) (ok : DOk ds) (r : Rps X.K O H ds vs) (kt : ∀ k ∈ keysD ds, ∃ ks, k = .tup ks ∧ D.purs ks = true ∧ D.dps ks < 8) :
    ∃ xs : List XE, s.heap.DictOfH (nestedKind X.prog X.w) a xs ∧ (a == sysModules) = false ∧ xs.length ≤ sizeLine ∧ Cor X.K O H ds vs xs := by
  obtain ⟨ob, ha⟩ := ha
  obtain ⟨h1, h2, h3⟩ := I.hok a _ ha
  obtain ⟨z, hs, o, arr, ep, e1, e2, e3, e4, e5⟩ := h1
  obtain ⟨xs, x1, x2, x3⟩ := dic_cor I ok.ev kt r e4
  exact ⟨xs, ⟨o, arr, ep, e1, e2, e3, x1, x2, by rw [x3.keys]; exact ok.nd⟩, hs, by rw [← x3.elen]; exact z, x3⟩
variable {A : Around} {E : Value → Shared → Prop} {a : Addr} {ds : List D} {vs : List V} {k : D} {y : V} {u : Value}
theorem room_n (hu : A.units + 9 < cLine) : (nestedKind X.prog X.w).room A.in1 := by
  show A.in1.units + 8 < cLine
  rw [Around.in1_units]
  omega
theorem isKey (I : Inv X pins σ H s) (hp : k.pur = true) (hd : D.dp k ≤ 8) {b : Addr} (rk : Rp X.K O H k (.ref b)) : (nestedKind X.prog X.w).is s.heap k.nk b := ⟨Rp.nest I hp rk rfl, by rw [nk_depth]; exact hd⟩
theorem tup_ref {ks : List D} (rk : Rp X.K O H (.tup ks) y) (ry : RelV y u) : ∃ b, y = .ref b ∧ u = .ref b := by
  unfold Rp at rk
  obtain ⟨b, _, rfl, _, _⟩ := rk
  exact ⟨b, rfl, ry⟩
/-- d[k] -/
theorem dicT_get {Q : Value → Shared → Prop} {d : D} (hu : A.units + 9 < cLine) (I : Inv X pins σ H s) (ha : DicAt H a (ent ds vs)) (ok : DOk ds) (r : Rps X.K O H ds vs) (f : fitD k ds = true) (ht : isIntD k = false) (rk : Rp X.K O H k y) (ry : RelV y u) (l : lookD k ds = some d)
    (h : ∀ v w s', Inv X pins σ H s' → RelV v w → Rp X.K O H d v → Q w s') : wpAny (model X.prog X.w) A (getItem (.ref a) u) Q E s := by
  obtain ⟨kp, kd, ⟨ks, rfl⟩, kt⟩ := fit_kt ok f ht
  obtain ⟨b, rfl, rfl⟩ := tup_ref rk ry
  obtain ⟨xs, x1, _, _, x4⟩ := dic_at I ha ok r kt
  have q := x4.find kp
  rw [l] at q
  obtain ⟨b', v, x, q1, q2, q3⟩ := q
  exact wpAny_getItem_heap (room_n hu) (isKey I kp kd rk) x1 q1 (h v x _ (I.tok _) q2 q3)
theorem dicT_getW {d : D} (I : Inv X pins σ H s) (ha : DicAt H a (ent ds vs)) (ok : DOk ds) (r : Rps X.K O H ds vs) (f : fitD k ds = true) (ht : isIntD k = false) (rk : Rp X.K O H k y) (ry : RelV y u) (l : lookD k ds = some d) :
    ∃ v w tk, RelV v w ∧ Rp X.K O H d v ∧ s.TypeIs (.ref a) "dict" ∧ ∀ {A : Around} {E : Value → Shared → Prop} {Q : Value → Shared → Prop}, A.units + 9 < cLine → Q w { s with toks := tk } → wpAny (model X.prog X.w) A (getItem (.ref a) u) Q E s := by
  obtain ⟨kp, kd, ⟨ks, rfl⟩, kt⟩ := fit_kt ok f ht
  obtain ⟨b, rfl, rfl⟩ := tup_ref rk ry
  obtain ⟨xs, x1, _, _, x4⟩ := dic_at I ha ok r kt
  have q := x4.find kp
  rw [l] at q
  obtain ⟨b', v, x, q1, q2, q3⟩ := q
  exact ⟨v, x, _, q2, q3, x1.typeIs, fun hu hq => wpAny_getItem_heap (room_n hu) (isKey I kp kd rk) x1 q1 hq⟩
/-- k in d, k not in d -/
theorem dicT_in {Q : Value → Shared → Prop} (hu : A.units + 9 < cLine) (I : Inv X pins σ H s) (ha : DicAt H a (ent ds vs)) (ok : DOk ds) (r : Rps X.K O H ds vs) (f : fitD k ds = true) (ht : isIntD k = false) (rk : Rp X.K O H k y) (ry : RelV y u)
    (h : ∀ s', Inv X pins σ H s' → Q (.bool (lookD k ds).isSome) s') : wpAny (model X.prog X.w) A (compareOp .In u (.ref a)) Q E s := by
  obtain ⟨kp, kd, ⟨ks, rfl⟩, kt⟩ := fit_kt ok f ht
  obtain ⟨b, rfl, rfl⟩ := tup_ref rk ry
  obtain ⟨xs, x1, x2, _, x4⟩ := dic_at I ha ok r kt
  refine wpAny_in_heap (room_n hu) (isKey I kp kd rk) x2 x1 ?_
  have q := x4.find kp
  have e : (atKey xs (D.tup ks).nk).isSome = (lookD (.tup ks) ds).isSome := by
    cases z : lookD (.tup ks) ds with
    | none => rw [z] at q; rw [q]; rfl
    | some d => rw [z] at q; obtain ⟨b', v, x, q1, _⟩ := q; rw [q1]; rfl
  rw [e]
  exact h _ (I.tok _)
theorem dicT_notIn {Q : Value → Shared → Prop} (hu : A.units + 9 < cLine) (I : Inv X pins σ H s) (ha : DicAt H a (ent ds vs)) (ok : DOk ds) (r : Rps X.K O H ds vs) (f : fitD k ds = true) (ht : isIntD k = false) (rk : Rp X.K O H k y) (ry : RelV y u)
    (h : ∀ s', Inv X pins σ H s' → Q (.bool (!(lookD k ds).isSome)) s') : wpAny (model X.prog X.w) A (compareOp .NotIn u (.ref a)) Q E s := by
  obtain ⟨kp, kd, ⟨ks, rfl⟩, kt⟩ := fit_kt ok f ht
  obtain ⟨b, rfl, rfl⟩ := tup_ref rk ry
  obtain ⟨xs, x1, x2, _, x4⟩ := dic_at I ha ok r kt
  refine wpAny_notIn_heap (room_n hu) (isKey I kp kd rk) x2 x1 ?_
  have q := x4.find kp
  have e : (atKey xs (D.tup ks).nk).isSome = (lookD (.tup ks) ds).isSome := by
    cases z : lookD (.tup ks) ds with
    | none => rw [z] at q; rw [q]; rfl
    | some d => rw [z] at q; obtain ⟨b', v, x, q1, _⟩ := q; rw [q1]; rfl
  rw [e]
  exact h _ (I.tok _)
theorem dicF_ok {P : Program} {w : World} {H' : Hp} {h' : Heap} {es : List DE} {ob : Obj} (h : DicF a es ob h') : ObjOk P w H' h' a (.ext (DicF a es ob)) := by
  obtain ⟨z, hs, o, arr, ep, e1, e2⟩ := h
  refine ⟨⟨z, hs, o, arr, ep, e1, e2⟩, ⟨o, e1⟩, fun h1 h2 q k => ?_⟩
  obtain ⟨z, hs, o, arr, ep, e1, e2⟩ := q
  exact ⟨z, hs, o, arr, ep, k _ e1, e2⟩
/-- d[k] = x -/
theorem dicT_put {Q : Unit → Shared → Prop} {d : D} {v : V} {x : Value} (hu : A.units + 9 < cLine) (I : Inv X pins σ H s) (ha : DicAt H a (ent ds vs)) (ok : DOk ds) (r : Rps X.K O H ds vs) (f : fitD k ds = true) (ht : isIntD k = false) (hl : ds.length < lim) (rk : Rp X.K O H k y) (ry : RelV y u) (rd : Rp X.K O H d v) (rv : RelV v x)
    (h : ∀ vs' ob s', DOk (putD k d ds) → Rps X.K O H (putD k d ds) vs' → Inv X pins σ (upd H a (.ext (DicF a (ent (putD k d ds) vs') ob))) s' → Q () s') : wpAny (model X.prog X.w) A (setItem (.ref a) u x) Q E s := by
  obtain ⟨kp, kd, ⟨ks, rfl⟩, kt⟩ := fit_kt ok f ht
  obtain ⟨b, rfl, rfl⟩ := tup_ref rk ry
  obtain ⟨xs, x1, x2, x3, x4⟩ := dic_at I ha ok r kt
  refine wpAny_setItem_heap (hsz := x3) (room_n hu) (isKey I kp kd rk) x1 fun h' hm' hs' => ?_
  have hn : (xs.map (·.1)).Nodup := by rw [x4.keys]; exact ok.nd
  have c := x4.put hn kp kd ⟨ks, rfl⟩ rk rd rv
  obtain ⟨o, arr, ep, e1, e2, e3, e4, e5, e6⟩ := hm'
  have hok : DOk (putD (.tup ks) d ds) := ⟨c.ev, by rw [← c.keys]; exact e6, .inr c.kt⟩
  refine h _ _ _ hok c.rps (I.write (x := a) (e := a) (by obtain ⟨_, ha⟩ := ha; rw [ha]; exact True.intro) (.inl rfl) (fun b q hb z => (hs'.2 b hb).trans z) ⟨o, e1⟩ (dicF_ok ⟨?_, x2, o, arr, ep, e1, e2, e3, by rw [e4]; exact c.ents, rfl⟩))
  have := putD_len (.tup ks) d ds ok.ev
  have := c.len
  have := c.elen
  have : lim ≤ sizeLine := by decide
  omega
end
/-! ### int keys -/
abbrev XI := L2.Key × Value
inductive CorI (K : PySem.W.Frag) (O : Addr → Prop) (H : Hp) : List D → List V → List XI → Prop
  | nil : CorI K O H [] [] []
  | cons {i : Int} {d : D} {v : V} {x : Value} {ds : List D} {vs : List V} {xs : List XI} : Rp K O H d v → RelV v x → CorI K O H ds vs xs → CorI K O H (.int i :: d :: ds) (.int i :: v :: vs) ((Sum.inl i, x) :: xs)
section
variable {K : PySem.W.Frag} {O : Addr → Prop} {H : Hp}
theorem CorI.keys {ds : List D} {vs : List V} {xs : List XI} (c : CorI K O H ds vs xs) : (keysD ds) = xs.map fun p => match p.1 with | .inl i => D.int i | .inr _ => D.non := by
  induction c with
  | nil => rfl
  | cons _ _ _ ih => simp [keysD, ih]
theorem CorI.ev {ds : List D} {vs : List V} {xs : List XI} (c : CorI K O H ds vs xs) : evn ds = true := by
  induction c with
  | nil => rfl
  | cons _ _ _ ih => exact ih
theorem CorI.rps {ds : List D} {vs : List V} {xs : List XI} (c : CorI K O H ds vs xs) : Rps K O H ds vs := by
  induction c with
  | nil => exact .nil
  | cons h2 _ _ ih => exact .cons (by unfold Rp; rfl) (.cons h2 ih)
theorem CorI.ints {ds : List D} {vs : List V} {xs : List XI} (c : CorI K O H ds vs xs) : (∀ k ∈ keysD ds, ∃ i, k = .int i) ∧ ∀ p ∈ xs, ∃ i, p.1 = Sum.inl i := by
  induction c with
  | nil => exact ⟨fun k h => absurd h List.not_mem_nil, fun k h => absurd h List.not_mem_nil⟩
  | cons _ _ _ ih =>
    refine ⟨fun k h => ?_, fun p h => ?_⟩
    · rcases List.mem_cons.mp h with e | h
      · exact ⟨_, e⟩
      · exact ih.1 k h
    · rcases List.mem_cons.mp h with e | h
      · exact ⟨_, by rw [e]⟩
      · exact ih.2 p h
theorem CorI.nk {ds : List D} {vs : List V} {xs : List XI} (c : CorI K O H ds vs xs) : (xs.map (·.1)).Nodup ↔ ((keysD ds).map D.nk).Nodup := by
  have e : (keysD ds).map D.nk = (xs.map (·.1)).map fun k => match k with | .inl i => NestedKey.num i | .inr x => NestedKey.text x := by
    induction c with
    | nil => rfl
    | cons _ _ _ ih => simp only [keysD, List.map_cons, ih, D.nk]
  rw [e]
  refine ⟨fun h => List.Pairwise.map _ (fun a b n z => n ?_) h, fun h => List.Pairwise.of_map _ (fun a b n z => n (by rw [z])) h⟩
  cases a <;> cases b <;> simp_all
theorem CorI.len {ds : List D} {vs : List V} {xs : List XI} (c : CorI K O H ds vs xs) : ds.length = 2 * xs.length ∧ (ent ds vs).length = xs.length := by
  induction c with
  | nil => exact ⟨rfl, rfl⟩
  | cons _ _ _ ih => exact ⟨by simp only [List.length_cons, ih.1]; omega, by simp only [ent, List.length_cons, ih.2]⟩
theorem valueAt_cons {p : XI} {r : List XI} {k : L2.Key} : valueAt (p :: r) k = if p.1 = k then some p.2 else valueAt r k := by
  unfold valueAt
  rw [List.find?_cons]
  by_cases h : p.1 = k
  · simp [h]
  · simp [h]
theorem CorI.find {ds : List D} {vs : List V} {xs : List XI} (c : CorI K O H ds vs xs) {i : Int} : match lookD (.int i) ds with
    | some d => ∃ v x, valueAt xs (Sum.inl i) = some x ∧ RelV v x ∧ Rp K O H d v
    | none => valueAt xs (Sum.inl i) = none := by
  induction c with
  | nil => rfl
  | @cons j d v x ds vs xs hd hr _ ih =>
    simp only [lookD]
    rw [valueAt_cons]
    by_cases q : j = i
    · subst q
      have e : D.eqv (.int j) (.int j) = true := by simp [D.eqv]
      rw [if_pos e, if_pos rfl]
      exact ⟨v, x, rfl, hr, hd⟩
    · have e : ¬ D.eqv (.int j) (.int i) = true := by simp [D.eqv, q]
      rw [if_neg e, if_neg (fun z => q (Sum.inl.inj z))]
      exact ih
theorem stored_cons {p : XI} {r : List XI} {k : L2.Key} {x : Value} (hn : ((p :: r).map (·.1)).Nodup) : stored (p :: r) k x = if p.1 = k then (p.1, x) :: r else p :: stored r k x := by
  rw [List.map_cons, List.nodup_cons] at hn
  unfold stored
  by_cases h : p.1 = k
  · rw [if_pos h]
    have h1 : ((p :: r).any fun kv => decide (kv.1 = k)) = true := by simp [h]
    rw [if_pos h1, List.map_cons, if_pos h]
    congr 1
    refine (List.map_congr_left fun q hq => ?_).trans (List.map_id r)
    rw [if_neg]
    · rfl
    · intro z
      exact hn.1 (List.mem_map.mpr ⟨q, hq, by rw [z, h]⟩)
  · rw [if_neg h]
    have h1 : ((p :: r).any fun kv => decide (kv.1 = k)) = (r.any fun kv => decide (kv.1 = k)) := by simp [h]
    rw [h1]
    split
    · rw [List.map_cons, if_neg h]
    · rfl
theorem CorI.put {ds : List D} {vs : List V} {xs : List XI} (c : CorI K O H ds vs xs) (hn : (xs.map (·.1)).Nodup) {i : Int} {d : D} {v : V} {x : Value} (h2 : Rp K O H d v) (hr : RelV v x) :
    CorI K O H (putD (.int i) d ds) (putV (.int i) (.int i) v ds vs) (stored xs (Sum.inl i) x) := by
  induction c with
  | nil => exact .cons h2 hr .nil
  | @cons j d' v' x' ds vs xs hd2 hr' c ih =>
    rw [stored_cons hn]
    simp only [putD, putV]
    by_cases q : j = i
    · subst q
      have e : D.eqv (.int j) (.int j) = true := by simp [D.eqv]
      rw [if_pos e, if_pos e, if_pos rfl]
      exact .cons h2 hr c
    · have e : ¬ D.eqv (.int j) (.int i) = true := by simp [D.eqv, q]
      rw [if_neg e, if_neg e, if_neg (fun z => q (Sum.inl.inj z))]
      rw [List.map_cons, List.nodup_cons] at hn
      exact .cons hd2 hr' (ih hn.2)
/-- entries of int keys, as the library tells them, and back -/
theorem CorI.back {P : Program} {w : World} {ds : List D} {vs : List V} {xs : List XI} (c : CorI K O H ds vs xs) : ∀ {es : List DictEntry}, (∀ e ∈ es, ∃ k, (mixKind P w).is k e.key = true ∧ e.hash = (mixKind P w).hash k) → Pairs (mixKind P w) es xs → Paired DER (ent ds vs) es := by
  induction c with
  | nil => intro es _ h; cases h; exact .nil
  | @cons i d v x ds vs xs _ hr _ ih =>
    intro es hk h
    cases h with
    | @cons e _ es' _ h1 h2 h3 =>
      simp only [ent]
      refine .cons ⟨?_, ?_, ?_⟩ (ih (fun e he => hk e (List.mem_cons_of_mem _ he)) h3)
      · obtain ⟨k, k1, k2⟩ := hk e List.mem_cons_self
        have : k = Sum.inl i := (mixKind P w).inj _ _ _ k1 h1
        rw [k2, this]
        rfl
      · rcases keyIs_shape (k := Sum.inl i) (v := e.key) h1 with ⟨j, t, e1, e2⟩ | ⟨y, t, e1, _⟩
        · cases e1
          exact ⟨t, e2⟩
        · cases e1
      · rw [h2]; exact hr
end
section
variable {X : Cx} {pins : List (Addr × Obj)} {σ : L2.St} {H : Hp} {s : Shared} {O : Addr → Prop}
theorem dicI_cor {P : Program} {w : World} : ∀ {ds : List D} {vs : List V} {es : List DictEntry}, evn ds = true → (∀ k ∈ keysD ds, ∃ i, k = D.int i) → Rps X.K O H ds vs → Paired DER (ent ds vs) es →
    ∃ xs : List XI, Pairs (mixKind P w) es xs ∧ (∀ e ∈ es, ∃ k, (mixKind P w).is k e.key = true ∧ e.hash = (mixKind P w).hash k) ∧ CorI X.K O H ds vs xs
  | [], vs, es, _, _, r, p => by
    rw [r.unnil] at p ⊢
    cases p
    exact ⟨[], .nil, (fun _ h => absurd h List.not_mem_nil), CorI.nil⟩
  | [_], _, _, h, _, _, _ => by cases h
  | k :: d :: ds, vs, es, he, hk, r, p => by
    obtain ⟨kv, r1, rfl, q1, q2⟩ := r.uncons
    obtain ⟨v, r2, rfl, q3, q4⟩ := q2.uncons
    obtain ⟨i, rfl⟩ := hk k List.mem_cons_self
    unfold Rp at q1
    subst q1
    simp only [ent] at p
    cases p with
    | @cons _ e _ es' p1 p2 =>
      obtain ⟨xs, e1, e2, e3⟩ := dicI_cor (P := P) (w := w) (ds := ds) he (fun y hy => hk y (List.mem_cons_of_mem _ hy)) q4 p2
      obtain ⟨p1, p3, p4⟩ := p1
      have k1 : (mixKind P w).is (Sum.inl i) e.key = true := kV_is (k := Sum.inl i) p3
      refine ⟨(Sum.inl i, e.val) :: xs, .cons k1 rfl e1, fun y hy => ?_, .cons q3 p4 e3⟩
      rcases List.mem_cons.mp hy with z | hy
      · rw [z]
        exact ⟨_, k1, p1⟩
      · exact e2 y hy
theorem fit_ki {i : Int} {ds : List D} (ok : DOk ds) (f : fitD (.int i) ds = true) : ∀ y ∈ keysD ds, ∃ j, y = D.int j := fun y hy => by
  have := List.all_eq_true.mp f y hy
  cases y <;> first | exact ⟨_, rfl⟩ | (simp [isIntD] at this)
theorem dicI_at (I : Inv X pins σ H s) {a : Addr} {ds : List D} {vs : List V} (ha : DicAt H a (ent ds vs)) (ok : DOk ds) (r : Rps X.K O H ds vs) (kt : ∀ k ∈ keysD ds, ∃ i, k = D.int i) :
    ∃ xs : List XI, s.heap.DictOf (mixKind X.prog X.w) a xs ∧ (a == sysModules) = false ∧ xs.length ≤ sizeLine ∧ CorI X.K O H ds vs xs := by
  obtain ⟨ob, ha⟩ := ha
  obtain ⟨h1, h2, h3⟩ := I.hok a _ ha
  obtain ⟨z, hs, o, arr, ep, e1, e2, e3, e4, e5⟩ := h1
  obtain ⟨xs, x1, x2, x3⟩ := dicI_cor (P := X.prog) (w := X.w) ok.ev kt r e4
  exact ⟨xs, ⟨o, arr, ep, e1, e2, e3, fun e he => x2 e (by simpa using he), x1, x3.nk.mpr ok.nd⟩, hs, by rw [← x3.len.2]; exact z, x3⟩
variable {A : Around} {E : Value → Shared → Prop} {a : Addr} {ds : List D} {vs : List V} {k : D} {y : V} {u : Value}
theorem isInt_i (h : isIntD k = true) : ∃ i, k = .int i := by
  cases k <;> first | exact ⟨_, rfl⟩ | (simp [isIntD] at h)
/-- d[k] -/
theorem dic_getW {d : D} (I : Inv X pins σ H s) (ha : DicAt H a (ent ds vs)) (ok : DOk ds) (r : Rps X.K O H ds vs) (f : fitD k ds = true) (rk : Rp X.K O H k y) (ry : RelV y u) (l : lookD k ds = some d) :
    ∃ v w tk, RelV v w ∧ Rp X.K O H d v ∧ s.TypeIs (.ref a) "dict" ∧ ∀ {A : Around} {E : Value → Shared → Prop} {Q : Value → Shared → Prop}, A.units + 9 < cLine → Q w { s with toks := tk } → wpAny (model X.prog X.w) A (getItem (.ref a) u) Q E s := by
  cases hi : isIntD k with
  | false => exact dicT_getW I ha ok r f hi rk ry l
  | true =>
    obtain ⟨i, rfl⟩ := isInt_i hi
    unfold Rp at rk
    subst rk
    obtain ⟨xs, x1, _, _, x4⟩ := dicI_at I ha ok r (fit_ki ok f)
    have q := x4.find (i := i)
    rw [l] at q
    obtain ⟨v, x, q1, q2, q3⟩ := q
    exact ⟨v, x, _, q2, q3, x1.typeIs, fun hu hq => wpAny_getItem_of (kV_is (k := Sum.inl i) ry) x1.mapOf q1 hq⟩
theorem look_is {i : Int} {xs : List XI} (c : CorI X.K O H ds vs xs) : (valueAt xs (Sum.inl i)).isSome = (lookD (.int i) ds).isSome := by
  have q := c.find (i := i)
  cases z : lookD (.int i) ds with
  | none => rw [z] at q; rw [q]; rfl
  | some d => rw [z] at q; obtain ⟨v, x, q1, _⟩ := q; rw [q1]; rfl
/-- k in d, k not in d -/
theorem dic_in {Q : Value → Shared → Prop} (hu : A.units + 9 < cLine) (I : Inv X pins σ H s) (ha : DicAt H a (ent ds vs)) (ok : DOk ds) (r : Rps X.K O H ds vs) (f : fitD k ds = true) (rk : Rp X.K O H k y) (ry : RelV y u)
    (h : ∀ s', Inv X pins σ H s' → Q (.bool (lookD k ds).isSome) s') : wpAny (model X.prog X.w) A (compareOp .In u (.ref a)) Q E s := by
  cases hi : isIntD k with
  | false => exact dicT_in hu I ha ok r f hi rk ry h
  | true =>
    obtain ⟨i, rfl⟩ := isInt_i hi
    unfold Rp at rk
    subst rk
    obtain ⟨xs, x1, x2, _, x4⟩ := dicI_at I ha ok r (fit_ki ok f)
    refine wpAny_in_of (kV_is (k := Sum.inl i) ry) x2 x1.mapOf ?_
    rw [look_is x4]
    exact h _ (I.tok _)
theorem dic_notIn {Q : Value → Shared → Prop} (hu : A.units + 9 < cLine) (I : Inv X pins σ H s) (ha : DicAt H a (ent ds vs)) (ok : DOk ds) (r : Rps X.K O H ds vs) (f : fitD k ds = true) (rk : Rp X.K O H k y) (ry : RelV y u)
    (h : ∀ s', Inv X pins σ H s' → Q (.bool (!(lookD k ds).isSome)) s') : wpAny (model X.prog X.w) A (compareOp .NotIn u (.ref a)) Q E s := by
  cases hi : isIntD k with
  | false => exact dicT_notIn hu I ha ok r f hi rk ry h
  | true =>
    obtain ⟨i, rfl⟩ := isInt_i hi
    unfold Rp at rk
    subst rk
    obtain ⟨xs, x1, x2, _, x4⟩ := dicI_at I ha ok r (fit_ki ok f)
    refine wpAny_notIn_of (kV_is (k := Sum.inl i) ry) x2 x1.mapOf ?_
    rw [look_is x4]
    exact h _ (I.tok _)
/-- d[k] = x -/
theorem dic_put {Q : Unit → Shared → Prop} {d : D} {v : V} {x : Value} (hu : A.units + 9 < cLine) (I : Inv X pins σ H s) (ha : DicAt H a (ent ds vs)) (ok : DOk ds) (r : Rps X.K O H ds vs) (f : fitD k ds = true) (hl : ds.length < lim) (rk : Rp X.K O H k y) (ry : RelV y u) (rd : Rp X.K O H d v) (rv : RelV v x)
    (h : ∀ vs' ob s', DOk (putD k d ds) → Rps X.K O H (putD k d ds) vs' → Inv X pins σ (upd H a (.ext (DicF a (ent (putD k d ds) vs') ob))) s' → Q () s') : wpAny (model X.prog X.w) A (setItem (.ref a) u x) Q E s := by
  cases hi : isIntD k with
  | false => exact dicT_put hu I ha ok r f hi hl rk ry rd rv h
  | true =>
    obtain ⟨i, rfl⟩ := isInt_i hi
    unfold Rp at rk
    subst rk
    obtain ⟨xs, x1, x2, x3, x4⟩ := dicI_at I ha ok r (fit_ki ok f)
    refine wpAny_setItem_pairs (hsz := x3) (kV_is (k := Sum.inl i) ry) x1 fun h' hm' hs' => ?_
    have hn : (xs.map (·.1)).Nodup := x4.nk.mpr ok.nd
    have c := x4.put hn (i := i) rd rv
    obtain ⟨o, arr, ep, e1, e2, e3, e4, e5, e6⟩ := hm'
    have hok : DOk (putD (.int i) d ds) := ⟨c.ev, c.nk.mp e6, .inl c.ints.1⟩
    refine h _ _ _ hok c.rps (I.write (x := a) (e := a) (by obtain ⟨_, ha⟩ := ha; rw [ha]; exact True.intro) (.inl rfl) (fun b q hb z => (hs'.2 b hb).trans z) ⟨o, e1⟩ (dicF_ok ⟨?_, x2, o, arr, ep, e1, e2, e3, c.back (P := X.prog) (w := X.w) (fun e he => e4 e (by simpa using he)) e5, rfl⟩))
    have := putD_len (.int i) d ds ok.ev
    have := c.len
    have : lim ≤ sizeLine := by decide
    omega
end
end Ev
set_option Elab.async false
set_option linter.all false
set_option maxRecDepth 100000
set_option maxHeartbeats 4000000
set_option autoImplicit false
/-! Ev1t: a tuple times an int, t * k with k at least 2. -/
namespace Ev
open PySem PySem.Spec PyProof.Rows L2
open Builtin
theorem meets_tuple_mul (t : Addr) (items : Array Value) (n : Nat) (d : Option Addr) (sl : Array (Option Value)) (x : Int) (u : Tok) (h2 : 2 ≤ x) (hx : x < 2 ^ 63) (hne : items.isEmpty = false) (hz : (items.size : Int) * x ≤ 1000) (hsz : (List.foldl (fun x1 x2 => x1 ++ x2) #[] (List.replicate x.toNat items)).size ≤ sizeLine) :
    Meets (Builtin.«tuple.__mul__» ⟨[.ref t, .int x u], []⟩) (fun _ R s => s.heap.get? t = some { cls := .type "tuple", dict := d, data := .seq items n, slots := sl } ∧ R (.ok (.ret (Value.ref s.heap.objs.size))) { s with heap := s.heap.push { cls := Value.type "tuple", data := Data.seq (List.foldl (fun x1 x2 => x1 ++ x2) #[] (List.replicate x.toNat items)) }, toks := s.toks }) :=
  .of_wp fun prog w A R s h => by
    obtain ⟨hp, g, d, tk, os⟩ := s; obtain ⟨hl, h⟩ := h
    have c1 : ¬ (decide (x < -2 ^ 63) || decide (x ≥ 2 ^ 63)) = true := by simp; omega
    have c2 : ¬ (items.isEmpty || x == 1) = true := by rw [hne]; simp; omega
    have c3 : ¬ (decide (x ≤ 0) || items.isEmpty) = true := by rw [hne]; simp; omega
    have c4 : ¬ ((items.size : Int) * x > (2 ^ 63 - 1) / 8) := by omega
    have c5 : ¬ Builtin.Tuple.tupleTooMany ((items.size : Int) * x) = true := by
      unfold Builtin.Tuple.tupleTooMany
      have : sizeLine = 16777216 := sizeLine_eq
      simp
      omega
    wp_walk
    refine wpAny_ite_false (decide_eq_false c1) ?_
    wp_walk
    refine wpAny_ite_false (decide_eq_false c2) ?_
    wp_walk
    refine wpAny_ite_false (decide_eq_false c3) ?_
    wp_walk
    refine wpAny_ite_false (decide_eq_false c4) ?_
    wp_walk
    exact ⟨_, rfl, h⟩
theorem meets_int_rmul_tuple (a : Int) (t : Tok) (l : Addr) (items : Array Value) (n : Nat) (d : Option Addr) (sl : Array (Option Value)) :
    Meets (Builtin.«int.__rmul__» ⟨[.int a t, .ref l], []⟩) (fun _ R s => s.heap.get? l = some { cls := .type "tuple", dict := d, data := .seq items n, slots := sl } ∧ R (.ok (.ret Value.notImplemented)) s) :=
  .of_wp fun prog w A R s h => by obtain ⟨hp, g, d, tk, os⟩ := s; obtain ⟨hl, h⟩ := h; wp_walk; exact ⟨_, rfl, h⟩
theorem noFill_tuple_mul : fillsNumberSlot (.type "tuple") "mul" = pure false :=
  PySem.fillsNumberSlot_seq (id := "tuple.__mul__") (r := some (.builtin "tuple.__rmul__")) F.slot_tuple_mul.lookup (by decide +kernel) F.slot_tuple_rmul.lookup (by decide +kernel)
theorem repeat_tuple : seqRepeat? (.type "tuple") = pure (some (.builtin "tuple.__mul__")) := by
  unfold seqRepeat?
  rw [PySem.seqSlot_of (T := "tuple") (name := "__mul__") (id := "tuple.__mul__") F.slot_tuple_mul.lookup (by decide +kernel), PySem.seqSlot_of (T := "tuple") (name := "__rmul__") (id := "tuple.__rmul__") F.slot_tuple_rmul.lookup (by decide +kernel)]
  rfl
section
variable {X : Cx}
def rRepT (K : PySem.W.Frag) : R2 := fun x y H Q => ∃ a k xs, x = .ref a ∧ y = .int k ∧ SqT K H a xs ∧ 2 ≤ k ∧ xs ≠ [] ∧ (xs.length : Int) * k ≤ 1000 ∧ ∀ p, H p = none → Q (.ref p) (upd H p (.tup (List.replicate k.toNat xs).flatten))
theorem op_repT : OpR X (binaryOp .Mult) (rRepT X.K) := by
  intro pins s σ H x y v u Q I rx ry h
  obtain ⟨a, k, xs, rfl, rfl, hs, h2, hne, hz, q⟩ := h
  cases rx
  obtain ⟨t, rfl⟩ := ry
  obtain ⟨its, r, hp, hzz⟩ := I.tuple hs
  have hl : its.length = xs.length := r.length.symm
  have hp : s.heap.IsTuple a its.toArray := hp
  obtain ⟨⟨cls, d, data, sl⟩, ho, hcl, n, hd⟩ := hp
  simp only at hcl hd
  subst hcl hd
  have hx1 : 1 ≤ xs.length := by
    cases xs with
    | nil => exact absurd rfl hne
    | cons _ _ => simp
  have hk1 : k ≤ (xs.length : Int) * k := by
    have := Int.mul_le_mul_of_nonneg_right (show (1 : Int) ≤ xs.length by omega) (show 0 ≤ k by omega)
    omega
  have hnew : List.foldl (fun x1 x2 => x1 ++ x2) #[] (List.replicate k.toNat its.toArray) = (List.replicate k.toNat its).flatten.toArray := by
    have := foldl_rep its k.toNat []
    rw [List.nil_append] at this
    exact this
  have hN : its.length * k.toNat ≤ 1000 := by
    have e : ((its.length * k.toNat : Nat) : Int) = (xs.length : Int) * k := by
      rw [hl, Int.natCast_mul, Int.toNat_of_nonneg (by omega)]
    omega
  have hfl : (List.replicate k.toNat its).flatten.length ≤ 1000 := by
    rw [PyProof.Rows.lm_len_rep_flat, Nat.mul_comm]
    exact hN
  have hline : sizeLine = 16777216 := sizeLine_eq
  refine wpAny_binaryOp_repeat_ref (T := "tuple") (U := "int") (by decide) ⟨_, ho, rfl⟩ (fun s' => typeIs_int s' k t) noFill_tuple_mul F.fills_int_mul F.slot_int_rmul repeat_tuple F.slot_int_index.lookup
    (call_meets F.slot_int_rmul (typeIs_int s k t) F.entry_int_rmul (F.args_int_rmul_2 _ _) (meets_int_rmul_tuple k t a its.toArray n d sl)
      ⟨ho, rfl, ⟨_, ho, rfl⟩, call_meets F.slot_tuple_mul ⟨_, ho, rfl⟩ F.entry_tuple_mul (F.args_tuple_mul_2 _ _)
        (meets_tuple_mul a its.toArray n d sl k t h2 (by omega) (by simpa using fun z => hne (List.length_eq_zero_iff.mp (by rw [← hl, z]; rfl))) (by rw [List.size_toArray, hl]; exact hz) (by rw [hnew, List.size_toArray]; omega)) ⟨ho, ?_⟩⟩)
  rw [hnew]
  have hy : (List.replicate k.toNat xs).flatten.length ≤ sizeLine := by rw [← (r.rep k.toNat).length] at hfl; omega
  refine ⟨.ref s.heap.objs.size, _, I.laid (t' := s.toks) (o := .tup (List.replicate k.toNat xs).flatten) (fun b ob q => Heap.get?_push_of_some _ q) (Nat.le_refl _) ?_, rfl, q _ (I.hok.fresh (Nat.le_refl _))⟩
  exact ⟨hy, _, r.rep k.toNat, IsTup.new _ _⟩
end
end Ev
set_option Elab.async false
set_option linter.all false
set_option maxRecDepth 100000
set_option maxHeartbeats 4000000
set_option autoImplicit false
/-! Ev2: the operations, by values. -/
namespace Ev
open PySem PySem.Spec PyProof.Rows L2
section
variable {K : PySem.W.Frag} {O : Addr → Prop} {H H' : Hp}
theorem lim_line : lim ≤ sizeLine := by rw [sizeLine_eq]; decide
theorem Fr.fresh {p : Addr} {o : HO} (hp : H p = none) : Fr (fun _ => False) H (upd H p o) := ⟨fun b u q _ _ => by rw [upd_ne (ne_of_none q hp)]; exact q, fun _ z => z.elim⟩
theorem Rp.fresh {p : Addr} {o : HO} (hp : H p = none) {d : D} {v : V} (h : Rp K O H d v) : Rp K O (upd H p o) d v := Rp.mono (Fr.fresh hp) (fun _ z => z.elim) (fun _ z => .inl z) h
theorem Rps.fresh {p : Addr} {o : HO} (hp : H p = none) {ds : List D} {vs : List V} (h : Rps K O H ds vs) : Rps K O (upd H p o) ds vs := Rps.mono (Fr.fresh hp) (fun _ z => z.elim) (fun _ z => .inl z) h
theorem Rp.non : Rp K O H .non .non := by unfold Rp; rfl
theorem Rp.bl (b : Bool) : Rp K O H (.bl b) (.bl b) := by unfold Rp; rfl
theorem Rp.int (i : Int) : Rp K O H (.int i) (.int i) := by unfold Rp; rfl
theorem Rp.str (x : Str) : Rp K O H (.str x) (.str x) := by unfold Rp; rfl
theorem Rp.unint {i : Int} {v : V} (h : Rp K O H (.int i) v) : v = .int i := by unfold Rp at h; exact h
theorem Rp.unbl {b : Bool} {v : V} (h : Rp K O H (.bl b) v) : v = .bl b := by unfold Rp at h; exact h
theorem Rp.unstr {x : Str} {v : V} (h : Rp K O H (.str x) v) : v = .str x := by unfold Rp at h; exact h
theorem Rp.unnon {v : V} (h : Rp K O H .non v) : v = .non := by unfold Rp at h; exact h
theorem Rp.untup {ds : List D} {v : V} (h : Rp K O H (.tup ds) v) : ∃ a vs, v = .ref a ∧ SqT K H a vs ∧ Rps K O H ds vs := by unfold Rp at h; exact h
theorem Rp.unlst {ds : List D} {v : V} (h : Rp K O H (.lst ds) v) : ∃ a vs, v = .ref a ∧ ¬ O a ∧ H a = some (.lst vs) ∧ Rps K O H ds vs := by unfold Rp at h; exact h
theorem Rp.unfz {ds : List D} {v : V} (h : Rp K O H (.fz ds) v) : ∃ a vs, v = .ref a ∧ SqL K H a vs ∧ Rps K O H ds vs := by
  unfold Rp at h
  obtain ⟨a, vs, e, s, r⟩ := h
  refine ⟨a, vs, e, ?_, r⟩
  rcases s with s | ⟨o, s⟩ | ⟨n, s⟩
  · exact .inr s
  · exact .inl (.inr ⟨o, s⟩)
  · exact .inl (.inl s)
theorem Rp.unemp {v : V} (h : Rp K O H .emp v) : ∃ a, v = .ref a ∧ H a = some (.dK []) := by unfold Rp at h; exact h
theorem Rp.undic {ds : List D} {v : V} (h : Rp K O H (.dic ds) v) : ∃ a vs, v = .ref a ∧ ¬ O a ∧ DicAt H a (ent ds vs) ∧ DOk ds ∧ Rps K O H ds vs := by unfold Rp at h; exact h
theorem Rp.emp {a : Addr} (s : H a = some (.dK [])) : Rp K O H .emp (.ref a) := by unfold Rp; exact ⟨a, rfl, s⟩
theorem Rp.tup {ds : List D} {a : Addr} {vs : List V} (s : SqT K H a vs) (r : Rps K O H ds vs) : Rp K O H (.tup ds) (.ref a) := by unfold Rp; exact ⟨a, vs, rfl, s, r⟩
theorem Rp.lst {ds : List D} {a : Addr} {vs : List V} (n : ¬ O a) (s : H a = some (.lst vs)) (r : Rps K O H ds vs) : Rp K O H (.lst ds) (.ref a) := by unfold Rp; exact ⟨a, vs, rfl, n, s, r⟩
/-- a new tuple, a new list -/
theorem Rp.newT {ds : List D} {p : Addr} {vs : List V} (hp : H p = none) (r : Rps K O H ds vs) : Rp K O (upd H p (.tup vs)) (.tup ds) (.ref p) := .tup (.inl (.inl upd_same)) (r.fresh hp)
theorem Rp.newL {ds : List D} {p : Addr} {vs : List V} (hO : ∀ a, O a → H a ≠ none) (hp : H p = none) (r : Rps K O H ds vs) : Rp K O (upd H p (.lst vs)) (.lst ds) (.ref p) := .lst (fun z => hO p z hp) upd_same (r.fresh hp)

theorem Rps.rep {ds : List D} {vs : List V} (r : Rps K O H ds vs) : ∀ n : Nat, Rps K O H (List.replicate n ds).flatten (List.replicate n vs).flatten
  | 0 => .nil
  | n + 1 => by
    rw [List.replicate_succ, List.replicate_succ, List.flatten_cons, List.flatten_cons]
    exact r.app (Rps.rep r n)
theorem Rps.revAux : ∀ {ds : List D} {vs : List V} {es : List D} {us : List V}, Rps K O H ds vs → Rps K O H es us → Rps K O H (ds.reverseAux es) (vs.reverseAux us)
  | [], vs, es, us, h, q => by rw [h.unnil]; exact q
  | d :: ds, vs, es, us, h, q => by
    obtain ⟨v, r, e1, h1, h2⟩ := h.uncons
    subst e1
    exact h2.revAux (.cons h1 q)
theorem Rps.rev {ds : List D} {vs : List V} (h : Rps K O H ds vs) : Rps K O H ds.reverse vs.reverse := h.revAux .nil
/-- the heap as it was, or one object more -/
def Ext (H H' : Hp) : Prop := H' = H ∨ ∃ p o, H p = none ∧ H' = upd H p o
/-- the wish is met by whatever is the value d -/
def VOk (K : PySem.W.Frag) (O : Addr → Prop) (H : Hp) (d : D) (Q : VK) : Prop := ∀ v H', Ext H H' → Rp K O H' d v → Q v H'
theorem VOk.same {d : D} {Q : VK} (q : VOk K O H d Q) {v : V} (h : Rp K O H d v) : Q v H := q v H (.inl rfl) h
theorem VOk.newT {ds : List D} {Q : VK} (q : VOk K O H (.tup ds) Q) {vs : List V} (r : Rps K O H ds vs) {p : Addr} (hp : H p = none) : Q (.ref p) (upd H p (.tup vs)) := q _ _ (.inr ⟨p, _, hp, rfl⟩) (.newT hp r)
theorem VOk.newL {ds : List D} {Q : VK} (q : VOk K O H (.lst ds) Q) (hO : ∀ a, O a → H a ≠ none) {vs : List V} (r : Rps K O H ds vs) {p : Addr} (hp : H p = none) : Q (.ref p) (upd H p (.lst vs)) := q _ _ (.inr ⟨p, _, hp, rfl⟩) (.newL hO hp r)

/-! ### as the library's data -/
mutual
def toP : D → PyData
  | .non => .none
  | .bl b => .bool b
  | .int i => .int i
  | .str x => .str x
  | .tup ds => .tuple (toPs ds)
  | .lst ds => .list (toPs ds)
  | .fz _ => .none
  | .emp => .none
  | .dic _ => .none
def toPs : List D → List PyData
  | [] => []
  | d :: ds => toP d :: toPs ds
end
mutual
theorem Rp.dp : ∀ {d : D} {n : Nat} {v : V}, Rp K O H d v → D.sh n d = true → Dp K H v (toP d)
  | .non, _, v, h, _ => by rw [h.unnon]; exact .non
  | .bl b, _, v, h, _ => by rw [h.unbl]; exact .bl b
  | .int i, _, v, h, _ => by rw [h.unint]; exact .int i
  | .str x, _, v, h, _ => by rw [h.unstr]; exact .str x
  | .tup ds, n, v, h, q => by
    obtain ⟨a, vs, rfl, s, r⟩ := h.untup
    exact .tup s (Rps.dp r (n := n) (by simpa [D.sh] using q))
  | .lst ds, n, v, h, q => by
    obtain ⟨a, vs, rfl, _, s, r⟩ := h.unlst
    exact .lst (.inl (.inl s)) (Rps.dp r (n := n) (by simpa [D.sh] using q))
  | .fz ds, n, v, h, q => by simp [D.sh] at q
  | .emp, n, v, h, q => by simp [D.sh] at q
  | .dic _, n, v, h, q => by simp [D.sh] at q
theorem Rps.dp : ∀ {ds : List D} {n : Nat} {vs : List V}, Rps K O H ds vs → D.shs n ds = true → DpAll K H vs (toPs ds)
  | [], _, vs, h, _ => by rw [h.unnil]; exact .nil
  | d :: ds, 0, vs, h, q => by simp [D.shs] at q
  | d :: ds, n + 1, vs, h, q => by
    obtain ⟨v, r, rfl, h1, h2⟩ := h.uncons
    simp only [D.shs, Bool.and_eq_true] at q
    exact .cons (Rp.dp h1 q.1) (Rps.dp h2 q.2)
end
mutual
theorem sh_lay : ∀ {d : D} {n : Nat}, D.sh n d = true → (toP d).canLay0 = true ∧ (toP d).depth ≤ n + 1
  | .non, _, _ => by simp [toP, PyData.canLay0, PyData.depth]
  | .bl b, _, _ => by simp [toP, PyData.canLay0, PyData.depth]
  | .int i, _, _ => by simp [toP, PyData.canLay0, PyData.depth]
  | .str x, _, q => by
    simp only [D.sh] at q
    refine ⟨?_, by simp [toP, PyData.depth]⟩
    simp only [toP, PyData.canLay0]
    exact q
  | .tup ds, n, q => by
    obtain ⟨h1, h2⟩ := shs_lay (ds := ds) (n := n) (by simpa [D.sh] using q)
    refine ⟨by simpa [toP, PyData.canLay0] using h1, ?_⟩
    simp only [toP, PyData.depth]
    omega
  | .lst ds, n, q => by
    obtain ⟨h1, h2⟩ := shs_lay (ds := ds) (n := n) (by simpa [D.sh] using q)
    refine ⟨by simpa [toP, PyData.canLay0] using h1, ?_⟩
    simp only [toP, PyData.depth]
    omega
  | .fz ds, n, q => by simp [D.sh] at q
  | .emp, n, q => by simp [D.sh] at q
  | .dic _, n, q => by simp [D.sh] at q
theorem shs_lay : ∀ {ds : List D} {n : Nat}, D.shs n ds = true → PyData.canLayAll0 (toPs ds) = true ∧ PyData.depthAll (toPs ds) ≤ n
  | [], n, _ => by simp [toPs, PyData.canLayAll0, PyData.depthAll]
  | d :: ds, 0, q => by simp [D.shs] at q
  | d :: ds, n + 1, q => by
    simp only [D.shs, Bool.and_eq_true] at q
    obtain ⟨h1, h2⟩ := sh_lay q.1
    obtain ⟨h3, h4⟩ := shs_lay q.2
    refine ⟨by simp [toPs, PyData.canLayAll0, h1, h3], ?_⟩
    simp only [toPs, PyData.depthAll]
    omega
end
theorem sh_shaped {d : D} (h : D.sh 60 d = true) : SeqAt.shaped (toP d) = true := by
  obtain ⟨h1, h2⟩ := sh_lay h
  show ((toP d).canLay0 && decide ((toP d).depth ≤ 64)) = true
  rw [Bool.and_eq_true]
  exact ⟨h1, decide_eq_true (by omega)⟩
mutual
theorem eqv_toP : ∀ {d e : D} {n m : Nat}, D.sh n d = true → D.sh m e = true → PyData.eqv (toP d) (toP e) = D.eqv d e
  | .fz _, _, _, _, h, _ => by simp [D.sh] at h
  | .emp, _, _, _, h, _ => by simp [D.sh] at h
  | .dic _, _, _, _, h, _ => by simp [D.sh] at h
  | .non, e, _, m, _, h => by cases e <;> first | rfl | simp [D.sh] at h
  | .bl b, e, _, m, _, h => by
    cases e with
    | int j => simp only [toP, PyData.eqv, D.eqv]; rw [Bool.beq_eq_decide_eq]
    | fz _ => simp [D.sh] at h
    | _ => simp only [toP, PyData.eqv, D.eqv]
  | .int i, e, _, m, _, h => by
    cases e with
    | int j => simp only [toP, PyData.eqv, D.eqv]; rw [Bool.beq_eq_decide_eq]
    | bl b => simp only [toP, PyData.eqv, D.eqv]; rw [Bool.beq_eq_decide_eq]
    | fz _ => simp [D.sh] at h
    | _ => simp only [toP, PyData.eqv, D.eqv]
  | .str x, e, _, m, _, h => by
    cases e with
    | str y => simp only [toP, PyData.eqv, D.eqv]; rw [Bool.beq_eq_decide_eq]
    | fz _ => simp [D.sh] at h
    | _ => simp only [toP, PyData.eqv, D.eqv]
  | .tup ds, e, n, m, hd, h => by
    cases e with
    | tup es => simp only [toP, PyData.eqv, D.eqv]; exact eqvs_toPs (n := n) (m := m) (by simpa [D.sh] using hd) (by simpa [D.sh] using h)
    | fz _ => simp [D.sh] at h
    | _ => simp only [toP, PyData.eqv, D.eqv]
  | .lst ds, e, n, m, hd, h => by
    cases e with
    | lst es => simp only [toP, PyData.eqv, D.eqv]; exact eqvs_toPs (n := n) (m := m) (by simpa [D.sh] using hd) (by simpa [D.sh] using h)
    | fz _ => simp [D.sh] at h
    | _ => simp only [toP, PyData.eqv, D.eqv]
theorem eqvs_toPs : ∀ {ds es : List D} {n m : Nat}, D.shs n ds = true → D.shs m es = true → PyData.eqvAll (toPs ds) (toPs es) = D.eqvs ds es
  | [], [], _, _, _, _ => by simp [toPs, PyData.eqvAll, D.eqvs]
  | [], _ :: _, _, _, _, _ => by simp [toPs, PyData.eqvAll, D.eqvs]
  | _ :: _, [], _, _, _, _ => by simp [toPs, PyData.eqvAll, D.eqvs]
  | d :: ds, e :: es, 0, _, h, _ => by simp [D.shs] at h
  | d :: ds, e :: es, _ + 1, 0, _, h => by simp [D.shs] at h
  | d :: ds, e :: es, n + 1, m + 1, h1, h2 => by
    simp only [D.shs, Bool.and_eq_true] at h1 h2
    simp only [toPs, PyData.eqvAll, D.eqvs]
    rw [eqv_toP h1.1 h2.1, eqvs_toPs h1.2 h2.2]
end
theorem mem_toPs {d : D} {n : Nat} (hd : D.sh n d = true) : ∀ {m : Nat} {ys : List D}, D.shs m ys = true → ((toPs ys).any fun z => PyData.eqv z (toP d)) = memOf d ys
  | _, [], _ => rfl
  | 0, _ :: _, h => by simp [D.shs] at h
  | m + 1, y :: ys, h => by
    simp only [D.shs, Bool.and_eq_true] at h
    simp only [toPs, List.any_cons, memOf]
    rw [eqv_toP h.1 hd, mem_toPs hd h.2]

/-! ### operators -/
def rBin (K : PySem.W.Frag) (o : Bop) : R2 := fun x y H Q => ∃ O d1 d2 d, (∀ a, O a → H a ≠ none) ∧ Rp K O H d1 x ∧ Rp K O H d2 y ∧ binop o d1 d2 = some d ∧ VOk K O H d Q
def opOf : Bop → Operator
  | .add => .Add
  | .sub => .Sub
  | .mul => .Mult
  | .fdiv => .FloorDiv
  | .mod => .Mod
  | .pow => .Pow
section
variable {X : Cx}
theorem op_fdivG : OpR X (binaryOp .FloorDiv) (rI (fun _ j => j ≠ 0 ∧ j.natAbs.log2 < 9000) fun i j => .int (i.fdiv j)) := opI fun i j _ _ _ _ _ hc q => floordiv_int hc.1 q (.inl (PyProof.noPylong_of_log2 hc.2))
theorem bin_ok (o : Bop) : OpR X (binaryOp (opOf o)) (rBin X.K o) := by
  intro pins s σ H x y v u Q I rx ry h
  obtain ⟨O, d1, d2, d, hO, h1, h2, hb, q⟩ := h
  cases o with
  | add =>
    cases d1 with
    | int i =>
      cases d2 with
      | int j =>
        cases hb
        exact op_add pins s σ H x y v u Q I rx ry ⟨i, j, h1.unint, h2.unint, q.same (.int _)⟩
      | bl b =>
        cases hb
        cases h1.unint
        cases h2.unbl
        obtain ⟨t, rfl⟩ := rx
        cases (show u = .bool b from ry)
        exact add_int_bool ⟨.int (i + b01 b), H, I.tok _, ⟨_, rfl⟩, q.same (.int _)⟩
      | _ => cases hb
    | bl a =>
      cases d2 with
      | int j =>
        cases hb
        cases h1.unbl
        cases h2.unint
        obtain ⟨t, rfl⟩ := ry
        cases (show v = .bool a from rx)
        exact PySem.IntBool.add_bool_int ⟨.int (b01 a + j), H, I.tok _, ⟨_, rfl⟩, q.same (.int _)⟩
      | bl b =>
        cases hb
        cases h1.unbl
        cases h2.unbl
        cases (show v = .bool a from rx)
        cases (show u = .bool b from ry)
        exact PyProof.Rows.add_bool ⟨.int (b01 a + b01 b), H, I.tok _, ⟨_, rfl⟩, q.same (.int _)⟩
      | _ => cases hb
    | lst as =>
      cases d2 with
      | lst bs =>
        simp only [binop] at hb
        split at hb
        · rename_i hl
          cases hb
          obtain ⟨a, vs, e1, n1, s1, r1⟩ := h1.unlst
          obtain ⟨b, us, e2, n2, s2, r2⟩ := h2.unlst
          refine op_cat pins s σ H x y v u Q I rx ry ⟨a, b, vs, us, e1, e2, s1, s2, ?_, fun p hp => q.newL hO (r1.app r2) hp⟩
          rw [← r1.len, ← r2.len]
          exact Nat.le_trans hl lim_line
        · cases hb
      | _ => cases hb
    | tup as =>
      cases d2 with
      | tup bs =>
        simp only [binop] at hb
        split at hb
        · rename_i hl
          cases hb
          obtain ⟨a, vs, e1, s1, r1⟩ := h1.untup
          obtain ⟨b, us, e2, s2, r2⟩ := h2.untup
          refine op_catA pins s σ H x y v u Q I rx ry ⟨a, b, vs, us, e1, e2, s1, s2, ?_, fun z => ?_, fun _ z => ?_, fun _ _ p hp => q.newT (r1.app r2) hp⟩
          · rw [← r1.len, ← r2.len]
            exact Nat.le_trans hl lim_line
          · subst z
            have : as = [] := List.length_eq_zero_iff.mp r1.len
            subst this
            exact q.same (.tup s2 r2)
          · subst z
            have : bs = [] := List.length_eq_zero_iff.mp r2.len
            subst this
            refine q.same ?_
            rw [List.append_nil]
            exact .tup s1 r1
        · cases hb
      | _ => cases hb
    | _ => cases d2 <;> cases hb
  | sub =>
    cases d1 with
    | int i =>
      cases d2 with
      | int j =>
        cases hb
        exact op_sub pins s σ H x y v u Q I rx ry ⟨i, j, h1.unint, h2.unint, q.same (.int _)⟩
      | bl b =>
        cases hb
        cases h1.unint
        cases h2.unbl
        obtain ⟨t, rfl⟩ := rx
        cases (show u = .bool b from ry)
        exact PySem.IntBool.sub_int_bool ⟨.int (i - b01 b), H, I.tok _, ⟨_, rfl⟩, q.same (.int _)⟩
      | _ => cases hb
    | bl a =>
      cases d2 with
      | int j =>
        cases hb
        cases h1.unbl
        cases h2.unint
        obtain ⟨t, rfl⟩ := ry
        cases (show v = .bool a from rx)
        exact PySem.IntBool.sub_bool_int ⟨.int (b01 a - j), H, I.tok _, ⟨_, rfl⟩, q.same (.int _)⟩
      | bl b =>
        cases hb
        cases h1.unbl
        cases h2.unbl
        cases (show v = .bool a from rx)
        cases (show u = .bool b from ry)
        exact PyProof.Rows.sub_bool ⟨.int (b01 a - b01 b), H, I.tok _, ⟨_, rfl⟩, q.same (.int _)⟩
      | _ => cases hb
    | _ => cases d2 <;> cases hb
  | mul =>
    cases d1 with
    | int i =>
      cases d2 with
      | int j =>
        simp only [binop] at hb
        split at hb
        · rename_i hm
          cases hb
          exact op_mulW pins s σ H x y v u Q I rx ry ⟨i, j, h1.unint, h2.unint, (of_decide_eq_true (show decide (i.natAbs.log2 + j.natAbs.log2 < 1000000) = true from hm) : i.natAbs.log2 + j.natAbs.log2 < 1000000), q.same (.int _)⟩
        · cases hb
      | _ => cases hb
    | lst as =>
      cases d2 with
      | int k =>
        simp only [binop] at hb
        split at hb
        · rename_i hl
          cases hb
          obtain ⟨a, vs, e1, n1, s1, r1⟩ := h1.unlst
          refine op_rep pins s σ H x y v u Q I rx ry ⟨a, k, vs, e1, h2.unint, s1, hl.2.1, hl.2.2, ?_, fun p hp => q.newL hO (Rps.rep r1 k.toNat) hp⟩
          rw [← r1.len]
          exact Nat.le_trans hl.1 lim_line
        · cases hb
      | _ => cases hb
    | tup as =>
      cases d2 with
      | int k =>
        simp only [binop] at hb
        split at hb
        · rename_i hl
          cases hb
          obtain ⟨a, vs, e1, s1, r1⟩ := h1.untup
          refine op_repT pins s σ H x y v u Q I rx ry ⟨a, k, vs, e1, h2.unint, s1, hl.1, fun z => hl.2.1 ?_, ?_, fun p hp => q.newT (Rps.rep r1 k.toNat) hp⟩
          · subst z
            exact List.length_eq_zero_iff.mp r1.len
          · rw [← r1.len]
            exact hl.2.2
        · cases hb
      | _ => cases hb
    | _ => cases d2 <;> cases hb
  | fdiv =>
    cases d1 with
    | int i =>
      cases d2 with
      | int j =>
        simp only [binop] at hb
        split at hb
        · cases hb
        · split at hb
          · rename_i hj hl
            cases hb
            exact op_fdivG pins s σ H x y v u Q I rx ry ⟨i, j, h1.unint, h2.unint, ⟨hj, hl⟩, q.same (.int _)⟩
          · cases hb
      | _ => cases hb
    | _ => cases d2 <;> cases hb
  | mod =>
    cases d1 with
    | int i =>
      cases d2 with
      | int j =>
        simp only [binop] at hb
        split at hb
        · cases hb
        · rename_i hj
          cases hb
          exact op_modN pins s σ H x y v u Q I rx ry ⟨i, j, h1.unint, h2.unint, hj, q.same (.int _)⟩
      | _ => cases hb
    | _ => cases d2 <;> cases hb
  | pow =>
    cases d1 with
    | int i =>
      cases d2 with
      | int j =>
        simp only [binop] at hb
        split at hb
        · rename_i hj
          cases hb
          exact op_pow pins s σ H x y v u Q I rx ry ⟨i, j, h1.unint, h2.unint, hj, q.same (.int _)⟩
        · cases hb
      | _ => cases hb
    | _ => cases d2 <;> cases hb
/-! ### comparisons -/
def rCmp (K : PySem.W.Frag) (o : Cop) : R2 := fun x y H Q => ∃ O d1 d2 b, Rp K O H d1 x ∧ Rp K O H d2 y ∧ cmpop o d1 d2 = some b ∧ Q (.bl b) H
def copOf : Cop → CmpOp
  | .eq => .Eq
  | .ne => .NotEq
  | .lt => .Lt
  | .le => .LtE
  | .gt => .Gt
  | .ge => .GtE
  | .isN => .Is
  | .notN => .IsNot
  | .mem => .In
  | .nmem => .NotIn
theorem op_inT (hu : X.A.units + 65 < cLine) {ds : List PyData} {d : PyData} {pins : List (Addr × Obj)} {s : Shared} {σ : L2.St} {H : Hp} {x y : V} {v u : Value} {Q : VK} (I : Inv X pins σ H s) (rx : RelV x v) (ry : RelV y u) (hd : Dp X.K H x d) (he : Dp X.K H y (.tuple ds))
    (sd : SeqAt.shaped d = true) (se : SeqAt.shaped (.tuple ds) = true) (q : Q (.bl (ds.any fun z => PyData.eqv z d)) H) : wpAny (model X.prog X.w) X.A (compareOp .In v u) (EP X pins σ Q) X.xe s := by
  obtain ⟨as, r1⟩ := Dp.reads I d x v hd rx
  obtain ⟨bs, r2⟩ := Dp.reads I (.tuple ds) y u he ry
  exact SeqAt.in_tuple_reads r2 r1 (SeqAt.canLay_of_shaped se) (SeqAt.canLay_of_shaped sd) (room_in_shaped sd hu) ⟨.bl _, H, I, rfl, q⟩
theorem op_notInT (hu : X.A.units + 65 < cLine) {ds : List PyData} {d : PyData} {pins : List (Addr × Obj)} {s : Shared} {σ : L2.St} {H : Hp} {x y : V} {v u : Value} {Q : VK} (I : Inv X pins σ H s) (rx : RelV x v) (ry : RelV y u) (hd : Dp X.K H x d) (he : Dp X.K H y (.tuple ds))
    (sd : SeqAt.shaped d = true) (se : SeqAt.shaped (.tuple ds) = true) (q : Q (.bl (!ds.any fun z => PyData.eqv z d)) H) : wpAny (model X.prog X.w) X.A (compareOp .NotIn v u) (EP X pins σ Q) X.xe s := by
  obtain ⟨as, r1⟩ := Dp.reads I d x v hd rx
  obtain ⟨bs, r2⟩ := Dp.reads I (.tuple ds) y u he ry
  exact SeqAt.notIn_tuple_reads r2 r1 (SeqAt.canLay_of_shaped se) (SeqAt.canLay_of_shaped sd) (room_in_shaped sd hu) ⟨.bl _, H, I, rfl, q⟩
theorem intsOf_eq : ∀ {ds : List D} {ns : List Int}, intsOf ds = some ns → ds = ns.map D.int
  | [], ns, h => by cases h; rfl
  | d :: ds, ns, h => by
    cases d with
    | int i =>
      simp only [intsOf] at h
      cases z : intsOf ds with
      | none => rw [z] at h; cases h
      | some is =>
        rw [z] at h
        cases h
        rw [intsOf_eq z]
        rfl
    | _ => cases h
theorem Rps.ints_eq : ∀ {ns : List Int} {vs : List V}, Rps K O H (ns.map D.int) vs → vs = ns.map V.int
  | [], vs, h => h.unnil
  | n :: ns, vs, h => by
    obtain ⟨v, r, e, h1, h2⟩ := Rps.uncons h
    rw [e, h1.unint, Rps.ints_eq h2]
    rfl
theorem lexAt_shift {e r : Nat → Bool} {z : Bool} : ∀ {k i : Nat}, Ob.lexAt e r z (i + 1) k = Ob.lexAt (fun j => e (j + 1)) (fun j => r (j + 1)) z i k
  | 0, i => rfl
  | k + 1, i => by
    rw [Ob.lexAt_succ, Ob.lexAt_succ, lexAt_shift]
theorem lexAt_row : ∀ (ns ms : List Int), Ob.lexAt (fun j => decide (ns.getD j 0 = ms.getD j 0)) (fun j => decide (ns.getD j 0 ≤ ms.getD j 0)) (decide (ns.length ≤ ms.length)) 0 (min ns.length ms.length) = leRow ns ms
  | [], ms => by simp [Ob.lexAt, leRow]
  | n :: ns, [] => by simp [Ob.lexAt, leRow]
  | n :: ns, m :: ms => by
    have e : min (n :: ns).length (m :: ms).length = min ns.length ms.length + 1 := by simp only [List.length_cons]; omega
    rw [e, Ob.lexAt_succ, lexAt_shift]
    have e2 : decide ((n :: ns).length ≤ (m :: ms).length) = decide (ns.length ≤ ms.length) := by simp
    rw [e2]
    have ih := lexAt_row ns ms
    show (if decide (n = m) = true then Ob.lexAt (fun j => decide (ns.getD j 0 = ms.getD j 0)) (fun j => decide (ns.getD j 0 ≤ ms.getD j 0)) (decide (ns.length ≤ ms.length)) 0 (min ns.length ms.length) else decide (n ≤ m)) = leRow (n :: ns) (m :: ms)
    rw [ih]
    simp only [leRow, decide_eq_true_eq]
theorem cmp_ok (hu : X.A.units + 65 < cLine) (o : Cop) : OpR X (compareOp (copOf o)) (rCmp X.K o) := by
  intro pins s σ H x y v u Q I rx ry h
  obtain ⟨O, d1, d2, b, h1, h2, hb, q⟩ := h
  have hu64 : X.A.units + 64 < cLine := Nat.lt_of_le_of_lt (Nat.le_succ _) hu
  cases o with
  | eq =>
    simp only [cmpop] at hb
    split at hb
    · rename_i hs
      cases hb
      rw [Bool.and_eq_true] at hs
      exact op_eqD hu64 pins s σ H x y v u Q I rx ry ⟨_, _, h1.dp hs.1, h2.dp hs.2, sh_shaped hs.1, sh_shaped hs.2, by rw [eqv_toP hs.1 hs.2]; exact q⟩
    · cases hb
  | ne =>
    simp only [cmpop] at hb
    split at hb
    · rename_i hs
      cases hb
      rw [Bool.and_eq_true] at hs
      exact op_neD hu64 pins s σ H x y v u Q I rx ry ⟨_, _, h1.dp hs.1, h2.dp hs.2, sh_shaped hs.1, sh_shaped hs.2, by rw [eqv_toP hs.1 hs.2]; exact q⟩
    · cases hb
  | lt =>
    cases d1 with
    | int i =>
      cases d2 with
      | int j =>
        cases hb
        exact op_lt pins s σ H x y v u Q I rx ry ⟨i, j, h1.unint, h2.unint, q⟩
      | _ => cases hb
    | _ => cases d2 <;> cases hb
  | le =>
    cases d1 with
    | int i =>
      cases d2 with
      | int j =>
        cases hb
        exact op_le pins s σ H x y v u Q I rx ry ⟨i, j, h1.unint, h2.unint, q⟩
      | _ => cases hb
    | tup xs =>
      cases d2 with
      | tup ys =>
        simp only [cmpop] at hb
        split at hb
        · rename_i a b ha hb'
          cases hb
          obtain ⟨p1, vs1, e1, s1, r1⟩ := h1.untup
          obtain ⟨p2, vs2, e2, s2, r2⟩ := h2.untup
          rw [intsOf_eq ha] at r1
          rw [intsOf_eq hb'] at r2
          rw [r1.ints_eq] at s1
          rw [r2.ints_eq] at s2
          exact op_leT (by omega) pins s σ H x y v u Q I rx ry ⟨p1, p2, a, b, e1, e2, s1, s2, by rw [lexAt_row]; exact q⟩
        · cases hb
      | _ => cases hb
    | _ => cases d2 <;> cases hb
  | gt =>
    cases d1 with
    | int i =>
      cases d2 with
      | int j =>
        cases hb
        exact op_gt pins s σ H x y v u Q I rx ry ⟨i, j, h1.unint, h2.unint, q⟩
      | _ => cases hb
    | _ => cases d2 <;> cases hb
  | ge =>
    cases d1 with
    | int i =>
      cases d2 with
      | int j =>
        cases hb
        exact op_ge pins s σ H x y v u Q I rx ry ⟨i, j, h1.unint, h2.unint, q⟩
      | _ => cases hb
    | _ => cases d2 <;> cases hb
  | isN =>
    cases d2 with
    | non =>
      refine op_isN pins s σ H x y v u Q I rx ry ⟨h2.unnon, ?_⟩
      cases d1 with
      | non => cases hb; rw [h1.unnon]; exact q
      | bl _ => cases hb; rw [h1.unbl]; exact q
      | int _ => cases hb; rw [h1.unint]; exact q
      | str _ => cases hb; rw [h1.unstr]; exact q
      | tup _ => cases hb; obtain ⟨a, vs, e, _⟩ := h1.untup; rw [e]; exact q
      | lst _ => cases hb; obtain ⟨a, vs, e, _⟩ := h1.unlst; rw [e]; exact q
      | fz _ => cases hb; obtain ⟨a, vs, e, _⟩ := h1.unfz; rw [e]; exact q
      | emp => cases hb; obtain ⟨a, e, _⟩ := h1.unemp; rw [e]; exact q
      | dic _ => cases hb; obtain ⟨a, vs, e, _⟩ := h1.undic; rw [e]; exact q
    | bl b =>
      cases d1 with
      | bl a => cases hb; exact op_isBl pins s σ H x y v u Q I rx ry ⟨a, b, h1.unbl, h2.unbl, q⟩
      | _ => cases hb
    | _ => cases d1 <;> cases hb
  | notN =>
    cases d2 with
    | non =>
      refine op_notN pins s σ H x y v u Q I rx ry ⟨h2.unnon, ?_⟩
      cases d1 with
      | non => cases hb; rw [h1.unnon]; exact q
      | bl _ => cases hb; rw [h1.unbl]; exact q
      | int _ => cases hb; rw [h1.unint]; exact q
      | str _ => cases hb; rw [h1.unstr]; exact q
      | tup _ => cases hb; obtain ⟨a, vs, e, _⟩ := h1.untup; rw [e]; exact q
      | lst _ => cases hb; obtain ⟨a, vs, e, _⟩ := h1.unlst; rw [e]; exact q
      | fz _ => cases hb; obtain ⟨a, vs, e, _⟩ := h1.unfz; rw [e]; exact q
      | emp => cases hb; obtain ⟨a, e, _⟩ := h1.unemp; rw [e]; exact q
      | dic _ => cases hb; obtain ⟨a, vs, e, _⟩ := h1.undic; rw [e]; exact q
    | bl b =>
      cases d1 with
      | bl a => cases hb; exact op_notBl pins s σ H x y v u Q I rx ry ⟨a, b, h1.unbl, h2.unbl, q⟩
      | _ => cases hb
    | _ => cases d1 <;> cases hb
  | mem =>
    cases d2 with
    | lst ys =>
      simp only [cmpop] at hb
      split at hb
      · rename_i hs
        cases hb
        rw [Bool.and_eq_true] at hs
        have hy : D.shs 60 ys = true := by simpa [D.sh] using hs.2
        refine op_inD hu pins s σ H x y v u Q I rx ry ⟨_, toPs ys, h1.dp hs.1, h2.dp hs.2, sh_shaped hs.1, sh_shaped hs.2, by rw [mem_toPs hs.1 hy]; exact q⟩
      · cases hb
    | tup ys =>
      simp only [cmpop] at hb
      split at hb
      · rename_i hs
        cases hb
        rw [Bool.and_eq_true] at hs
        have hy : D.shs 60 ys = true := by simpa [D.sh] using hs.2
        exact op_inT hu I rx ry (h1.dp hs.1) (h2.dp hs.2) (sh_shaped hs.1) (sh_shaped hs.2) (by rw [mem_toPs hs.1 hy]; exact q)
      · cases hb
    | dic ys =>
      simp only [cmpop] at hb
      split at hb
      · rename_i hs
        cases hb
        obtain ⟨a, vs, rfl, _, e, ok, r⟩ := h2.undic
        cases (show u = Value.ref a from ry)
        exact dic_in (Nat.lt_of_le_of_lt (Nat.add_le_add_left (by decide) _) hu) I e ok r hs h1 rx fun s' I' => ⟨.bl _, H, I', rfl, q⟩
      · cases hb
    | _ => cases hb
  | nmem =>
    cases d2 with
    | lst ys =>
      simp only [cmpop] at hb
      split at hb
      · rename_i hs
        cases hb
        rw [Bool.and_eq_true] at hs
        have hy : D.shs 60 ys = true := by simpa [D.sh] using hs.2
        refine op_notInD hu pins s σ H x y v u Q I rx ry ⟨_, toPs ys, h1.dp hs.1, h2.dp hs.2, sh_shaped hs.1, sh_shaped hs.2, by rw [mem_toPs hs.1 hy]; exact q⟩
      · cases hb
    | tup ys =>
      simp only [cmpop] at hb
      split at hb
      · rename_i hs
        cases hb
        rw [Bool.and_eq_true] at hs
        have hy : D.shs 60 ys = true := by simpa [D.sh] using hs.2
        exact op_notInT hu I rx ry (h1.dp hs.1) (h2.dp hs.2) (sh_shaped hs.1) (sh_shaped hs.2) (by rw [mem_toPs hs.1 hy]; exact q)
      · cases hb
    | dic ys =>
      simp only [cmpop] at hb
      split at hb
      · rename_i hs
        cases hb
        obtain ⟨a, vs, rfl, _, e, ok, r⟩ := h2.undic
        cases (show u = Value.ref a from ry)
        exact dic_notIn (Nat.lt_of_le_of_lt (Nat.add_le_add_left (by decide) _) hu) I e ok r hs h1 rx fun s' I' => ⟨.bl _, H, I', rfl, q⟩
      · cases hb
    | _ => cases hb
/-! ### subscripts, slices -/
theorem place_ix (n : Nat) (i : Int) : place n i = ixN n i := by
  unfold place ixN
  cases i with
  | ofNat k =>
    simp only [Int.ofNat_eq_natCast]
    by_cases h : k < n
    · rw [if_pos h, if_pos (by omega), if_pos (by omega)]; simp
    · rw [if_neg h, if_pos (by omega), if_neg (by omega)]
  | negSucc k =>
    simp only
    by_cases h : k + 1 ≤ n
    · rw [if_pos h, if_neg (by omega), if_pos (by omega)]
      congr 1
      omega
    · rw [if_neg h, if_neg (by omega), if_neg (by omega)]
theorem at_get {xs : List D} {vs : List V} {i : Int} {d : D} (r : Rps K O H xs vs) (h : at_ xs i = some d) : ∃ v, atI vs i = some v ∧ Rp K O H d v := by
  unfold at_ at h
  unfold atI
  rw [place_ix, r.len] at h
  cases e : ixN vs.length i with
  | none => rw [e] at h; cases h
  | some j =>
    rw [e] at h
    exact r.get h
/-- d[k] -/
def rIxDic (K : PySem.W.Frag) : R2 := fun x y H Q => ∃ (O : Addr → Prop) (a : Addr) (ds : List D) (vs : List V) (k d : D), x = .ref a ∧ DicAt H a (ent ds vs) ∧ DOk ds ∧ Rps K O H ds vs ∧ fitD k ds = true ∧ Rp K O H k y ∧ lookD k ds = some d ∧ ∀ v, Rp K O H d v → Q v H
theorem ix_dic (hu : X.A.units + 65 < cLine) : IxR X (rIxDic X.K) := by
  intro value slice pins s σ H x y v u Q I rx ry h hs
  obtain ⟨O, a, ds, vs, k, d, rfl, ha, ok, r, f, rk, l, q⟩ := h
  cases (show v = Value.ref a from rx)
  obtain ⟨v, w, tk, rv, rd, ty, go⟩ := dic_getW I ha ok r f rk ry l
  have fin : EP X pins σ Q w { s with toks := tk } := ⟨v, H, I.tok _, rv, q v rd⟩
  exact subscriptTail_builtinR (x := w) ty PySem.F.slot_dict_getitem.lookup (go (Q := fun r s' => r = w ∧ EP X pins σ Q r s') (Nat.lt_of_le_of_lt (Nat.add_le_add_left (by decide) _) hu) ⟨rfl, fin⟩) hs
def rIxs (K : PySem.W.Frag) : R2 := fun x y H Q => rIxL K x y H Q ∨ rIxT K x y H Q ∨ rIxDic K x y H Q
theorem ixs_ok (hu : X.A.units + 65 < cLine) : IxR X (rIxs X.K) := IxR.or ix_list (IxR.or ix_tup (ix_dic hu))
theorem ix_val {d1 d2 d : D} {x y : V} {Q : VK} (h1 : Rp K O H d1 x) (h2 : Rp K O H d2 y) (h : ixop d1 d2 = some d) (q : VOk K O H d Q) : rIxs K x y H Q := by
  cases d1 with
  | tup xs =>
    cases d2 with
    | int i =>
      obtain ⟨a, vs, e1, s1, r1⟩ := h1.untup
      obtain ⟨v, e, r⟩ := at_get r1 (show at_ xs i = some d from h)
      exact .inr (.inl ⟨a, vs, i, v, e1, h2.unint, s1, e, q.same r⟩)
    | _ => cases h
  | lst xs =>
    cases d2 with
    | int i =>
      obtain ⟨a, vs, e1, _, s1, r1⟩ := h1.unlst
      obtain ⟨v, e, r⟩ := at_get r1 (show at_ xs i = some d from h)
      exact .inl ⟨a, vs, i, v, e1, h2.unint, .inl (.inl s1), e, q.same r⟩
    | _ => cases h
  | fz xs =>
    cases d2 with
    | int i =>
      obtain ⟨a, vs, e1, s1, r1⟩ := h1.unfz
      obtain ⟨v, e, r⟩ := at_get r1 (show at_ xs i = some d from h)
      exact .inl ⟨a, vs, i, v, e1, h2.unint, s1, e, q.same r⟩
    | _ => cases h
  | dic ds =>
    simp only [ixop] at h
    split at h
    · rename_i f
      obtain ⟨a, vs, e, _, s1, ok, r⟩ := h1.undic
      exact .inr (.inr ⟨O, a, ds, vs, d2, d, e, s1, ok, r, f, h2, h, fun v rv => q.same rv⟩)
    · cases h
  | _ => cases d2 <;> cases h
theorem cut_ix (n d : Nat) (o : Option Int) : cutAt n d o = HT.sIx n d o := by
  cases o with
  | none => rfl
  | some i =>
    cases i with
    | ofNat k => exact (HT.sIx_nat n d k).symm
    | negSucc k =>
      show n - (k + 1) = if Int.negSucc k < 0 then (Int.negSucc k + (n : Int)).toNat else _
      rw [if_pos (by omega)]
      omega
theorem cut_rps {xs : List D} {vs : List V} (r : Rps K O H xs vs) (lo hi : Option Int) : Rps K O H (cutOf xs lo hi) (cutV vs lo hi) := by
  unfold cutOf cutV
  rw [cut_ix, cut_ix, r.len]
  exact (r.drop _).take _
def rSls (K : PySem.W.Frag) : V → Option Int → Option Int → Hp → VK → Prop := fun x lo hi H Q => rSlL K x lo hi H Q ∨ rSlA K x lo hi H Q
theorem sls_ok : SlR X (rSls X.K) := SlR.or sl_list sl_tupA
theorem sl_val {d1 d : D} {x : V} {lo hi : Option Int} {Q : VK} (hO : ∀ a, O a → H a ≠ none) (h1 : Rp K O H d1 x) (h : slop d1 lo hi = some d) (q : VOk K O H d Q) : rSls K x lo hi H Q := by
  cases d1 with
  | tup xs =>
    cases h
    obtain ⟨a, vs, e1, s1, r1⟩ := h1.untup
    refine .inr ⟨a, vs, e1, s1, fun z => ?_, fun _ p hp => q.newT (cut_rps r1 lo hi) hp⟩
    refine q.same (.tup s1 ?_)
    have e : cutV vs lo hi = vs := by
      unfold cutV
      rw [z.1, z.2]
      simp
    rw [← e]
    exact cut_rps r1 lo hi
  | lst xs =>
    cases h
    obtain ⟨a, vs, e1, _, s1, r1⟩ := h1.unlst
    exact .inl ⟨a, vs, e1, .inl (.inl s1), fun p hp => q.newL hO (cut_rps r1 lo hi) hp⟩
  | _ => cases h
/-! ### truth -/
theorem truth_val {d : D} {v : V} (h : Rp K O H d v) {b : Bool} (hs : d.tr = some b) : TruV K v H b := by
  cases d with
  | non => cases hs; rw [h.unnon]; rfl
  | bl b => cases hs; rw [h.unbl]; rfl
  | int i =>
    cases hs
    rw [h.unint]
    show (!decide (i = 0)) = (i != 0)
    rw [bne, Bool.beq_eq_decide_eq]
  | str x => cases hs
  | emp => cases hs
  | dic _ => cases hs
  | tup ds =>
    cases hs
    obtain ⟨a, vs, e, s, r⟩ := h.untup
    rw [e]
    refine .inr (.inl ⟨vs, s, ?_⟩)
    have := r.len
    cases ds <;> cases vs <;> simp at this ⊢ <;> rfl
  | lst ds =>
    cases hs
    obtain ⟨a, vs, e, _, s, r⟩ := h.unlst
    rw [e]
    refine .inl ⟨vs, .inl (.inl s), ?_⟩
    have := r.len
    cases ds <;> cases vs <;> simp at this ⊢ <;> rfl
  | fz ds =>
    cases hs
    obtain ⟨a, vs, e, s, r⟩ := h.unfz
    rw [e]
    refine .inl ⟨vs, s, ?_⟩
    have := r.len
    cases ds <;> cases vs <;> simp at this ⊢ <;> rfl
end
end
end Ev
set_option Elab.async false
set_option linter.all false
set_option maxRecDepth 100000
set_option maxHeartbeats 4000000
set_option autoImplicit false
/-! Ev2b: a tuple or a list from its end, t[::-1]. -/
namespace HT
open PySem PyProof.Rows PySem.W L2
section
variable {prog : Program} {w : World} {A : Around} {E : Value → Shared → Prop} {s : Shared}
theorem sliceApplied_rev {sl : Addr} {vl vu vs : Value} {n : Nat} {Q : Int × Int × Nat → Shared → Prop} (hs : s.heap.IsSliceOf sl vl vu vs) (pl : IsPart vl none) (pu : IsPart vu none) (ps : IsPart vs (some (-1)))
    (h : Q ((n : Int) - 1, -1, n) s) : wpAny (model prog w) A (Builtin.Slice.sliceApplied (.ref sl) (pure (n : Int))) Q E s := by
  obtain ⟨os, hos, hcs, hds⟩ := id hs
  unfold Builtin.Slice.sliceApplied Builtin.Slice.sliceFields
  refine wpAny_bind (wpAny_bind (wpAny_field hos hds (x := vl) rfl (wpAny_bind (wpAny_field hos hds (x := vu) rfl (wpAny_bind (wpAny_field hos hds (x := vs) rfl (wpAny_pure ?_)))))))
  refine wpAny_bind (slicePart_ ps ?_)
  show wpAny _ _ (if ((-1 : Int) == 0) = true then _ else _) _ _ s
  rw [if_neg (by decide)]
  refine wpAny_bind (slicePart_ pl (wpAny_bind (slicePart_ pu (wpAny_bind (wpAny_pure ?_)))))
  show wpAny _ _ (match Builtin.Slice.sliceAdjust none none (-1) (n : Int) with | (lo, hi) => pure (lo, (-1 : Int), Builtin.Slice.slicePlaces lo hi (-1))) _ _ s
  have e1 : Builtin.Slice.sliceAdjust none none (-1) (n : Int) = ((n : Int) - 1, -1) := by
    unfold Builtin.Slice.sliceAdjust
    simp
  rw [e1]
  show wpAny _ _ (pure ((n : Int) - 1, (-1 : Int), Builtin.Slice.slicePlaces ((n : Int) - 1) (-1) (-1))) _ _ s
  have e2 : Builtin.Slice.slicePlaces ((n : Int) - 1) (-1) (-1) = n := by
    unfold Builtin.Slice.slicePlaces
    simp
    try omega
  rw [e2]
  exact wpAny_pure h
theorem fm_congr {a b : Type} {f g : a → Option b} : ∀ {l : List a}, (∀ x ∈ l, f x = g x) → l.filterMap f = l.filterMap g
  | [], _ => rfl
  | x :: l, h => by
    rw [List.filterMap_cons, List.filterMap_cons, h x List.mem_cons_self, fm_congr (l := l) fun y hy => h y (List.mem_cons_of_mem _ hy)]
theorem pick_all {a : Type} (xs : List a) : (List.range xs.length).filterMap (fun m => xs[m]?) = xs := by
  have q := pick_run xs.toArray 0 xs.length
  rw [List.filterMap_map] at q
  have e : ((fun x => xs.toArray[x]?) ∘ fun x => 0 + x) = fun m => xs[m]? := by
    funext m
    simp
  rw [e] at q
  rw [q]
  simp
theorem pick_revL (xs : Array Value) : ((List.range xs.size).filterMap fun (m : Nat) => xs[(((xs.size : Int) - 1) + (m : Int) * (-1)).toNat]?) = xs.toList.reverse := by
  have e : ((List.range xs.size).filterMap fun (m : Nat) => xs[(((xs.size : Int) - 1) + (m : Int) * (-1)).toNat]?) = (List.range xs.toList.reverse.length).filterMap fun m => xs.toList.reverse[m]? := by
    rw [List.length_reverse, Array.length_toList]
    refine fm_congr fun m hm => ?_
    have hm : m < xs.size := List.mem_range.mp hm
    rw [List.getElem?_reverse (by rw [Array.length_toList]; exact hm), Array.getElem?_toList, Array.length_toList]
    congr 1
    omega
  rw [e, pick_all]
theorem getItem_tuple_rev {t sl : Addr} {items : Array Value} {vl vu vs : Value} {Q : Value → Shared → Prop} (ht : IsTup s.heap t items) (hs : s.heap.IsSliceOf sl vl vu vs) (pl : IsPart vl none) (pu : IsPart vu none) (ps : IsPart vs (some (-1)))
    (h : Q (.ref s.heap.objs.size) { s with heap := s.heap.push { cls := .type "tuple", data := .seq items.toList.reverse.toArray } })
    (hsz : items.size ≤ sizeLine) : wpAny (model prog w) A (getItem (.ref t) (.ref sl)) Q E s := by
  have htake : sizeOk (.seq items.toList.reverse.toArray) := by
    show items.toList.reverse.toArray.size ≤ sizeLine
    rw [List.size_toArray, List.length_reverse, Array.length_toList]
    omega
  obtain ⟨os, hos, hcs, hds⟩ := id hs
  have hTs : s.TypeIs (.ref sl) "slice" := ⟨os, hos, hcs⟩
  unfold getItem
  try with_reducible refine wpAny_holding ?_
  first | refine wpAny_bind (wpAny_pure ?_) | skip
  refine wpAny_bind (wpAny_sequenceKey ht.typeIs (by decide) ?_)
  refine wpAny_bind (wpAny_callSpecial?_slot (name := Str.ofString "__getitem__") ht.typeIs PyProof.Rows.slot_tuple_getitem
    (wpAny_call_entry PyProof.Rows.slot_tuple_getitem ht.typeIs entry_tuple_getitem ?_ (args_tuple_getitem _ _)))
  show wpAny _ _ (Builtin.Tuple.tupleItemsOf (.ref t) >>= _) _ _ s
  refine wpAny_bind (tupleItemsOf_ ht ?_)
  refine wpAny_bind (wpAny_typeOf hTs ?_)
  rw [if_pos (by decide)]
  refine wpAny_bind (sliceApplied_rev hs pl pu ps ?_)
  have hno : ¬ ((((items.size : Int) - 1) == 0 && (-1 : Int) == 1 && items.size == items.size) = true) := by simp
  show wpAny _ _ (if (((items.size : Int) - 1) == 0 && (-1 : Int) == 1 && items.size == items.size) = true then _ else _) _ _ s
  rw [if_neg hno, pick_revL]
  first
    | exact wpAny_bind (m := Builtin.Tuple.tupleExact _) (wpAny_newObj_type (wpAny_pure ⟨_, rfl, wpAny_pure h⟩) htake)
    | exact wpAny_bind (m := Builtin.Tuple.tupleExact _) (wpAny_newObj_type (wpAny_bind (wpAny_pure (wpAny_pure ⟨_, rfl, wpAny_pure h⟩))) htake)
    | exact wpAny_bind (wpAny_bind (m := Builtin.Tuple.tupleExact _) (wpAny_newObj_type (wpAny_pure (wpAny_pure ⟨_, rfl, wpAny_pure h⟩)) htake))
    | exact wpAny_bind (wpAny_bind (m := Builtin.Tuple.tupleExact _) (wpAny_newObj_type (wpAny_pure ⟨_, rfl, wpAny_pure h⟩) htake))
theorem sliceApplied_rev2 {sl : Addr} {vl vu vs : Value} {n : Nat} {Q : Int × Int × Nat → Shared → Prop} (h2 : 2 ≤ n) (hs : s.heap.IsSliceOf sl vl vu vs) (pl : IsPart vl (some 1)) (pu : IsPart vu none) (ps : IsPart vs (some (-1)))
    (h : Q (1, -1, 2) s) : wpAny (model prog w) A (Builtin.Slice.sliceApplied (.ref sl) (pure (n : Int))) Q E s := by
  obtain ⟨os, hos, hcs, hds⟩ := id hs
  unfold Builtin.Slice.sliceApplied Builtin.Slice.sliceFields
  refine wpAny_bind (wpAny_bind (wpAny_field hos hds (x := vl) rfl (wpAny_bind (wpAny_field hos hds (x := vu) rfl (wpAny_bind (wpAny_field hos hds (x := vs) rfl (wpAny_pure ?_)))))))
  refine wpAny_bind (slicePart_ ps ?_)
  show wpAny _ _ (if ((-1 : Int) == 0) = true then _ else _) _ _ s
  rw [if_neg (by decide)]
  refine wpAny_bind (slicePart_ pl (wpAny_bind (slicePart_ pu (wpAny_bind (wpAny_pure ?_)))))
  show wpAny _ _ (match Builtin.Slice.sliceAdjust (some 1) none (-1) (n : Int) with | (lo, hi) => pure (lo, (-1 : Int), Builtin.Slice.slicePlaces lo hi (-1))) _ _ s
  have e1 : Builtin.Slice.sliceAdjust (some 1) none (-1) (n : Int) = (1, -1) := by
    unfold Builtin.Slice.sliceAdjust
    simp
    omega
  rw [e1]
  show wpAny _ _ (pure ((1 : Int), (-1 : Int), Builtin.Slice.slicePlaces (1 : Int) (-1) (-1))) _ _ s
  exact wpAny_pure h
theorem getItem_tuple_rev2 {t sl : Addr} {items : Array Value} {vl vu vs a b : Value} {r : List Value} {Q : Value → Shared → Prop} (ht : IsTup s.heap t items) (hi : items.toList = a :: b :: r) (hs : s.heap.IsSliceOf sl vl vu vs) (pl : IsPart vl (some 1)) (pu : IsPart vu none) (ps : IsPart vs (some (-1)))
    (h : Q (.ref s.heap.objs.size) { s with heap := s.heap.push { cls := .type "tuple", data := .seq [b, a].toArray } }) : wpAny (model prog w) A (getItem (.ref t) (.ref sl)) Q E s := by
  have hn : 2 ≤ items.size := by
    have := congrArg List.length hi
    rw [Array.length_toList, List.length_cons, List.length_cons] at this
    omega
  have htake : sizeOk (.seq [b, a].toArray) := by
    show [b, a].toArray.size ≤ sizeLine
    rw [List.size_toArray, sizeLine_eq]
    show 2 ≤ _
    omega
  obtain ⟨os, hos, hcs, hds⟩ := id hs
  have hTs : s.TypeIs (.ref sl) "slice" := ⟨os, hos, hcs⟩
  unfold getItem
  try with_reducible refine wpAny_holding ?_
  first | refine wpAny_bind (wpAny_pure ?_) | skip
  refine wpAny_bind (wpAny_sequenceKey ht.typeIs (by decide) ?_)
  refine wpAny_bind (wpAny_callSpecial?_slot (name := Str.ofString "__getitem__") ht.typeIs PyProof.Rows.slot_tuple_getitem
    (wpAny_call_entry PyProof.Rows.slot_tuple_getitem ht.typeIs entry_tuple_getitem ?_ (args_tuple_getitem _ _)))
  show wpAny _ _ (Builtin.Tuple.tupleItemsOf (.ref t) >>= _) _ _ s
  refine wpAny_bind (tupleItemsOf_ ht ?_)
  refine wpAny_bind (wpAny_typeOf hTs ?_)
  rw [if_pos (by decide)]
  refine wpAny_bind (sliceApplied_rev2 hn hs pl pu ps ?_)
  have hno : ¬ (((1 : Int) == 0 && (-1 : Int) == 1 && 2 == items.size) = true) := by simp
  show wpAny _ _ (if ((1 : Int) == 0 && (-1 : Int) == 1 && 2 == items.size) = true then _ else _) _ _ s
  have pk : ((List.range 2).filterMap fun (m : Nat) => items[((1 : Int) + (m : Int) * (-1)).toNat]?) = [b, a] := by
    have i0 : items[0]? = some a := by rw [← Array.getElem?_toList, hi]; rfl
    have i1 : items[1]? = some b := by rw [← Array.getElem?_toList, hi]; rfl
    show ([0, 1].filterMap fun (m : Nat) => items[((1 : Int) + (m : Int) * (-1)).toNat]?) = [b, a]
    simp [i0, i1]
  rw [if_neg hno, pk]
  first
    | exact wpAny_bind (m := Builtin.Tuple.tupleExact _) (wpAny_newObj_type (wpAny_pure ⟨_, rfl, wpAny_pure h⟩) htake)
    | exact wpAny_bind (m := Builtin.Tuple.tupleExact _) (wpAny_newObj_type (wpAny_bind (wpAny_pure (wpAny_pure ⟨_, rfl, wpAny_pure h⟩))) htake)
    | exact wpAny_bind (wpAny_bind (m := Builtin.Tuple.tupleExact _) (wpAny_newObj_type (wpAny_pure (wpAny_pure ⟨_, rfl, wpAny_pure h⟩)) htake))
    | exact wpAny_bind (wpAny_bind (m := Builtin.Tuple.tupleExact _) (wpAny_newObj_type (wpAny_pure ⟨_, rfl, wpAny_pure h⟩) htake))
end
end HT
namespace Ev
open PySem PySem.Spec PyProof.Rows L2
section
variable {X : Cx} {e : Expr} {te : TE} {k : Nat} {p1 p2 p3 pos : Pos}
/-- t[::-1], xs[::-1] -/
def tRev (K : PySem.W.Frag) (te : TE) : TE := fun σ H Q => te σ H fun x H1 => ∃ a xs, x = .ref a ∧ ((SqL K H1 a xs ∧ ∀ p, H1 p = none → Q (.ref p) (upd H1 p (.lst xs.reverse))) ∨ (SqT K H1 a xs ∧ ∀ p, H1 p = none → Q (.ref p) (upd H1 p (.tup xs.reverse))))
theorem pe_rev (he : PE X e te) : PE X (.Subscript e (.Slice none none (some (.UnaryOp .USub (.Constant (.int 1) k p1) p2)) p3) pos) (tRev X.K te) := by
  refine ⟨fun pins s σ H Q I h => ?_⟩
  refine Subscript_ (thn (he.run pins s σ H _ I h) fun v s1 ⟨x, H1, I1, r1, q1⟩ => ?_)
  obtain ⟨a, xs, ex, q1⟩ := q1
  subst ex
  cases r1
  have hst : PO X (some (.UnaryOp .USub (.Constant (.int 1) k p1) p2)) (tPart (tUn (rU fun i => .int (-i)) (tC (.int 1)))) := po_some (pe_un un_neg pe_int)
  refine wpAny_Slice (thn (po_none.run pins s1 σ H1 (fun o H2 => o = none ∧ H2 = H1) I1 ⟨rfl, rfl⟩) fun vl s2 ⟨l, H2, I2, pl, el, e2⟩ => ?_)
  subst el e2
  refine thn (po_none.run pins s2 σ H2 (fun o H3 => o = none ∧ H3 = H2) I2 ⟨rfl, rfl⟩) fun vu s3 ⟨u, H3, I3, pu, eu, e3⟩ => ?_
  subst eu e3
  refine thn (hst.run pins s3 σ H3 (fun o H4 => o = some (-1) ∧ H4 = H3) I3 ⟨1, rfl, -1, rfl, rfl, rfl⟩) fun vs s4 ⟨o, H4, I4, ps, eo, e4⟩ => ?_
  subst eo e4
  have I5 : Inv X pins σ H4 { s4 with heap := s4.heap.push { cls := .type "slice", data := .fields #[vl, vu, vs] } } := I4.kept (t' := s4.toks) fun b ob q => Heap.get?_push_of_some _ q
  show wpAny (model X.prog X.w) X.A (subscriptTail e (.Slice none none (some (.UnaryOp .USub (.Constant (.int 1) k p1) p2)) p3) (.ref a) (.ref s4.heap.objs.size)) (EP X pins σ Q) X.xe { s4 with heap := s4.heap.push { cls := .type "slice", data := .fields #[vl, vu, vs] } }
  rcases q1 with ⟨hx, q⟩ | ⟨hx, q⟩
  · obtain ⟨its, r, ht, hz⟩ := I5.list hx
    have hlen := r.length
    refine tail_any (ops := [.ref a, .ref s4.heap.objs.size]) ht.isList.typeIs (PySem.slot_list_getitem.lookup) ?_ (by with_unfolding_all rfl)
    refine wpAny_getItem_list_slice ht.isList (Heap.IsSliceOf.new _ vl vu vs) pl pu ps (by decide) ?_ (by rw [List.size_toArray]; omega)
    rw [PySem.W.krv_pick]
    refine ⟨.ref _, _, I5.laid (t' := s4.toks) (o := .lst xs.reverse) (fun b ob q => Heap.get?_push_of_some _ q) (Nat.le_refl _) ?_, rfl, q _ (I5.hok.fresh (Nat.le_refl _))⟩
    exact ⟨by rw [List.length_reverse]; exact hz, _, 0, r.reverse, Heap.get?_push_size _ rfl⟩
  · obtain ⟨its, r, ht, hz⟩ := I5.tuple hx
    have hlen := r.length
    refine tail_any (ops := [.ref a, .ref s4.heap.objs.size]) ht.typeIs (PyProof.Rows.slot_tuple_getitem.lookup) ?_ (by with_unfolding_all rfl)
    refine HT.getItem_tuple_rev ht (Heap.IsSliceOf.new _ vl vu vs) pl pu ps ?_ (by rw [List.size_toArray]; omega)
    refine ⟨.ref _, _, I5.laid (t' := s4.toks) (o := .tup xs.reverse) (fun b ob q => Heap.get?_push_of_some _ q) (Nat.le_refl _) ?_, rfl, q _ (I5.hok.fresh (Nat.le_refl _))⟩
    exact ⟨by rw [List.length_reverse]; exact hz, _, r.reverse, IsTup.new _ _⟩
/-- t[1::-1] -/
def tRev2 (K : PySem.W.Frag) (te : TE) : TE := fun σ H Q => te σ H fun x H1 => ∃ a y z xs, x = .ref a ∧ SqT K H1 a (y :: z :: xs) ∧ ∀ p, H1 p = none → Q (.ref p) (upd H1 p (.tup [z, y]))
theorem pe_rev2 {k0 : Nat} {p0 : Pos} (he : PE X e te) : PE X (.Subscript e (.Slice (some (.Constant (.int 1) k0 p0)) none (some (.UnaryOp .USub (.Constant (.int 1) k p1) p2)) p3) pos) (tRev2 X.K te) := by
  refine ⟨fun pins s σ H Q I h => ?_⟩
  refine Subscript_ (thn (he.run pins s σ H _ I h) fun v s1 ⟨x, H1, I1, r1, q1⟩ => ?_)
  obtain ⟨a, y, z, xs, ex, hx, q⟩ := q1
  subst ex
  cases r1
  have hst : PO X (some (.UnaryOp .USub (.Constant (.int 1) k p1) p2)) (tPart (tUn (rU fun i => .int (-i)) (tC (.int 1)))) := po_some (pe_un un_neg pe_int)
  have hlo : PO X (some (.Constant (.int 1) k0 p0)) (tPart (tC (.int 1))) := po_some pe_int
  refine wpAny_Slice (thn (hlo.run pins s1 σ H1 (fun o H2 => o = some 1 ∧ H2 = H1) I1 ⟨1, rfl, rfl, rfl⟩) fun vl s2 ⟨l, H2, I2, pl, el, e2⟩ => ?_)
  subst el e2
  refine thn (po_none.run pins s2 σ H2 (fun o H3 => o = none ∧ H3 = H2) I2 ⟨rfl, rfl⟩) fun vu s3 ⟨u, H3, I3, pu, eu, e3⟩ => ?_
  subst eu e3
  refine thn (hst.run pins s3 σ H3 (fun o H4 => o = some (-1) ∧ H4 = H3) I3 ⟨1, rfl, -1, rfl, rfl, rfl⟩) fun vs s4 ⟨o, H4, I4, ps, eo, e4⟩ => ?_
  subst eo e4
  have I5 : Inv X pins σ H4 { s4 with heap := s4.heap.push { cls := .type "slice", data := .fields #[vl, vu, vs] } } := I4.kept (t' := s4.toks) fun b ob q => Heap.get?_push_of_some _ q
  show wpAny (model X.prog X.w) X.A (subscriptTail e (.Slice (some (.Constant (.int 1) k0 p0)) none (some (.UnaryOp .USub (.Constant (.int 1) k p1) p2)) p3) (.ref a) (.ref s4.heap.objs.size)) (EP X pins σ Q) X.xe { s4 with heap := s4.heap.push { cls := .type "slice", data := .fields #[vl, vu, vs] } }
  obtain ⟨its, r, ht, hz⟩ := I5.tuple hx
  cases r with
  | cons ra r =>
    cases r with
    | cons rb r =>
      refine tail_any (ops := [.ref a, .ref s4.heap.objs.size]) ht.typeIs (PyProof.Rows.slot_tuple_getitem.lookup) ?_ (by with_unfolding_all rfl)
      refine HT.getItem_tuple_rev2 ht rfl (Heap.IsSliceOf.new _ vl vu vs) pl pu ps ?_
      refine ⟨.ref _, _, I5.laid (t' := s4.toks) (o := .tup [z, y]) (fun b ob q => Heap.get?_push_of_some _ q) (Nat.le_refl _) ?_, rfl, q _ (I5.hok.fresh (Nat.le_refl _))⟩
      exact ⟨by rw [sizeLine_eq]; show 2 ≤ _; omega, _, .cons rb (.cons ra .nil), IsTup.new _ _⟩
end
end Ev
set_option Elab.async false
set_option linter.all false
set_option maxRecDepth 100000
set_option maxHeartbeats 4000000
set_option autoImplicit false
/-! Ev3: a tree is the tree of a text; what it computes is what the text does. -/
namespace Ev
open PySem PySem.Spec PyProof.Rows L2
structure FnI where
  name : Str
  ps : List Str
  io : Bool
structure Gam where
  N : List Str
  sc : Scope
  cs : Option Scope
  fns : List FnI
  gls : List Str
  lm : Bool := false
def bltNames : List Str := ["len", "abs", "int", "tuple", "list", "isinstance", "range", "bool", "str", "zip", "sorted", "min", "max", "sum", "set"]
def badName (x : Str) : Bool := x == ("__debug__" : Str) || x == ("__classdict__" : Str) || x == ("__name__" : Str)
def visB (Γ : Gam) (x : Str) : Bool := (match Γ.sc.names.lookup x with
  | some .local => true
  | some .cell => true
  | some .free => true
  | _ => false) && !badName x
def glB (Γ : Gam) (x : Str) : Bool := (match Γ.sc.names.lookup x with
  | some .globalImplicit => true
  | _ => false) && !badName x
/-- a name that may be stored -/
def stB (Γ : Gam) (x : Str) : Bool := match Γ.sc.names.lookup x with
  | some .local => true
  | some .cell => (match Γ.cs with
    | none => true
    | some sc => sc.names.lookup x == some .cell)
  | _ => false
def isStar : PySem.Expr → Bool
  | .Starred _ _ => true
  | _ => false
def isSl : PySem.Expr → Bool
  | .Slice _ _ _ _ => true
  | _ => false
/-- [::-1] -/
def isRevSl : PySem.Expr → Bool
  | .Slice none none (some (.UnaryOp .USub (.Constant (.int 1) _ _) _)) _ => true
  | _ => false
def isRev2Sl : PySem.Expr → Bool
  | .Slice (some (.Constant (.int 1) _ _)) none (some (.UnaryOp .USub (.Constant (.int 1) _ _) _)) _ => true
  | _ => false
theorem isRev2Sl_i {e : PySem.Expr} (h : isRev2Sl e = true) : ∃ k k0 p0 p1 p2 p3, e = .Slice (some (.Constant (.int 1) k0 p0)) none (some (.UnaryOp .USub (.Constant (.int 1) k p1) p2)) p3 := by
  unfold isRev2Sl at h
  split at h
  · exact ⟨_, _, _, _, _, _, rfl⟩
  · cases h
theorem isRevSl_i {e : PySem.Expr} (h : isRevSl e = true) : ∃ k p1 p2 p3, e = .Slice none none (some (.UnaryOp .USub (.Constant (.int 1) k p1) p2)) p3 := by
  unfold isRevSl at h
  split at h
  · exact ⟨_, _, _, _, rfl⟩
  · cases h
def isSet : PySem.Expr → Bool
  | .Set _ _ _ => true
  | _ => false
def noStar (es : List PySem.Expr) : Bool := es.all fun e => !isStar e
def litB : D → Const → Bool
  | .non, .none => true
  | .bl a, .bool b => a == b
  | .int i, .int j => decide (i = j)
  | .str x, .str y => decide (x = y)
  | _, _ => false
def nameB (n : Str) : PySem.Expr → Bool
  | .Name x _ => x == n
  | _ => false
def Prim.name : Prim → Str
  | .len => "len"
  | .abs => "abs"
  | .int => "int"
  | .tuple => "tuple"
  | .list => "list"
  | .sum => "sum"
  | .min1 => "min"
  | .max1 => "max"
  | .sorted => "sorted"
  | _ => "isinstance"
def Prim2.name : Prim2 → Str
  | .min2 => "min"
  | .max2 => "max"
/-- the second argument of isinstance -/
def clsB (Γ : Gam) : Prim → PySem.Expr → Bool
  | .isInt, e => nameB "int" e && glB Γ "int"
  | .isBool, e => nameB "bool" e && glB Γ "bool"
  | .isTup, e => nameB "tuple" e && glB Γ "tuple"
  | .isLst, e => nameB "list" e && glB Γ "list"
  | .isStr, e => nameB "str" e && glB Γ "str"
  | .isSeq, .Tuple [a, b] _ _ => nameB "tuple" a && nameB "list" b && (glB Γ "tuple" && glB Γ "list")
  | _, _ => false
def Gam.blk (Γ : Gam) (scope : Scope) : Gam := { Γ with sc := relS scope Γ.sc, cs := some scope, lm := false }
/-! ### forms of texts -/
def asName (e : PySem.Expr) (k : Str → Bool) : Bool := match e with
  | .Name x _ => k x
  | _ => false
def asTup (e : PySem.Expr) (k : List PySem.Expr → Bool) : Bool := match e with
  | .Tuple es _ _ => k es
  | _ => false
def asLst (e : PySem.Expr) (k : List PySem.Expr → Bool) : Bool := match e with
  | .List es _ => k es
  | _ => false
def asCon (e : PySem.Expr) (k : Const → Bool) : Bool := match e with
  | .Constant c _ _ => k c
  | _ => false
def asBin (e : PySem.Expr) (k : Operator → PySem.Expr → PySem.Expr → Bool) : Bool := match e with
  | .BinOp x p y _ => k p x y
  | _ => false
def asUn (e : PySem.Expr) (k : UnaryOp → PySem.Expr → Bool) : Bool := match e with
  | .UnaryOp p x _ => k p x
  | _ => false
def asCmp (e : PySem.Expr) (k : PySem.Expr → List CmpOp → List PySem.Expr → Bool) : Bool := match e with
  | .Compare x ps ys _ => k x ps ys
  | _ => false
def asBoo (e : PySem.Expr) (k : BoolOp → List PySem.Expr → Pos → Bool) : Bool := match e with
  | .BoolOp o es p => k o es p
  | _ => false
def asIf (e : PySem.Expr) (k : PySem.Expr → PySem.Expr → PySem.Expr → Bool) : Bool := match e with
  | .IfExp x y z _ => k x y z
  | _ => false
/-- a call of a name, no keywords -/
def asCall (e : PySem.Expr) (k : Str → List PySem.Expr → Bool) : Bool := match e with
  | .Call (.Name x _) es [] _ => k x es
  | _ => false
def asSub (e : PySem.Expr) (k : PySem.Expr → PySem.Expr → Bool) : Bool := match e with
  | .Subscript x y _ => k x y
  | _ => false
def asSl (e : PySem.Expr) (k : Option PySem.Expr → Option PySem.Expr → Bool) : Bool := match e with
  | .Slice l h none _ => k l h
  | _ => false
def asComp (e : PySem.Expr) (k : PySem.Expr → PySem.Expr → PySem.Expr → List PySem.Expr → Scope → Bool) : Bool := match e with
  | .ListComp x [⟨tg, it, ifs, 0⟩] sc _ => k x tg it ifs sc
  | _ => false
def asG3 (gs : List PySem.Comprehension) (k : PySem.Expr → PySem.Expr → PySem.Expr → PySem.Expr → PySem.Expr → PySem.Expr → Bool) : Bool := match gs with
  | [⟨tg, it, [], 0⟩, ⟨tg1, it1, [], 0⟩, ⟨tg2, it2, [], 0⟩] => k tg it tg1 it1 tg2 it2
  | _ => false
def asComp3 (e : PySem.Expr) (k : PySem.Expr → PySem.Expr → PySem.Expr → PySem.Expr → PySem.Expr → PySem.Expr → PySem.Expr → Scope → Bool) : Bool := match e with
  | .ListComp x gs sc _ => asG3 gs fun tg it tg1 it1 tg2 it2 => k x tg it tg1 it1 tg2 it2 sc
  | _ => false
def asComp2 (e : PySem.Expr) (k : PySem.Expr → PySem.Expr → PySem.Expr → List PySem.Expr → PySem.Expr → PySem.Expr → List PySem.Expr → Scope → Bool) : Bool := match e with
  | .ListComp x [⟨tg, it, ifs, 0⟩, ⟨tg1, it1, ifs1, 0⟩] sc _ => k x tg it ifs tg1 it1 ifs1 sc
  | _ => false
def as1 {a : Type} (l : List a) (k : a → Bool) : Bool := match l with
  | [x] => k x
  | _ => false
def as2 {a : Type} (l : List a) (k : a → a → Bool) : Bool := match l with
  | [x, y] => k x y
  | _ => false
def asC {a : Type} (l : List a) (k : a → List a → Bool) : Bool := match l with
  | x :: r => k x r
  | _ => false
theorem asName_i {e : PySem.Expr} {k : Str → Bool} (h : asName e k = true) : ∃ x p, e = .Name x p ∧ k x = true := by
  cases e <;> first | exact ⟨_, _, rfl, h⟩ | cases h
theorem asTup_i {e : PySem.Expr} {k : List PySem.Expr → Bool} (h : asTup e k = true) : ∃ x n p, e = .Tuple x n p ∧ k x = true := by
  cases e <;> first | exact ⟨_, _, _, rfl, h⟩ | cases h
theorem asLst_i {e : PySem.Expr} {k : List PySem.Expr → Bool} (h : asLst e k = true) : ∃ x p, e = .List x p ∧ k x = true := by
  cases e <;> first | exact ⟨_, _, rfl, h⟩ | cases h
theorem asCon_i {e : PySem.Expr} {k : Const → Bool} (h : asCon e k = true) : ∃ x n p, e = .Constant x n p ∧ k x = true := by
  cases e <;> first | exact ⟨_, _, _, rfl, h⟩ | cases h
theorem asBin_i {e : PySem.Expr} {k : Operator → PySem.Expr → PySem.Expr → Bool} (h : asBin e k = true) : ∃ x o y p, e = .BinOp x o y p ∧ k o x y = true := by
  cases e <;> first | exact ⟨_, _, _, _, rfl, h⟩ | cases h
theorem asUn_i {e : PySem.Expr} {k : UnaryOp → PySem.Expr → Bool} (h : asUn e k = true) : ∃ o x p, e = .UnaryOp o x p ∧ k o x = true := by
  cases e <;> first | exact ⟨_, _, _, rfl, h⟩ | cases h
theorem asCmp_i {e : PySem.Expr} {k : PySem.Expr → List CmpOp → List PySem.Expr → Bool} (h : asCmp e k = true) : ∃ x ps ys p, e = .Compare x ps ys p ∧ k x ps ys = true := by
  cases e <;> first | exact ⟨_, _, _, _, rfl, h⟩ | cases h
theorem asBoo_i {e : PySem.Expr} {k : BoolOp → List PySem.Expr → Pos → Bool} (h : asBoo e k = true) : ∃ o es p, e = .BoolOp o es p ∧ k o es p = true := by
  cases e <;> first | exact ⟨_, _, _, rfl, h⟩ | cases h
theorem asIf_i {e : PySem.Expr} {k : PySem.Expr → PySem.Expr → PySem.Expr → Bool} (h : asIf e k = true) : ∃ x y z p, e = .IfExp x y z p ∧ k x y z = true := by
  cases e <;> first | exact ⟨_, _, _, _, rfl, h⟩ | cases h
theorem asCall_i {e : PySem.Expr} {k : Str → List PySem.Expr → Bool} (h : asCall e k = true) : ∃ x q es p, e = .Call (.Name x q) es [] p ∧ k x es = true := by
  cases e with
  | Call f es ks p =>
    cases f with
    | Name x q => cases ks with
      | nil => exact ⟨_, _, _, _, rfl, h⟩
      | cons _ _ => cases h
    | _ => cases h
  | _ => cases h
theorem asSub_i {e : PySem.Expr} {k : PySem.Expr → PySem.Expr → Bool} (h : asSub e k = true) : ∃ x y p, e = .Subscript x y p ∧ k x y = true := by
  cases e <;> first | exact ⟨_, _, _, rfl, h⟩ | cases h
theorem asSl_i {e : PySem.Expr} {k : Option PySem.Expr → Option PySem.Expr → Bool} (h : asSl e k = true) : ∃ l u p, e = .Slice l u none p ∧ k l u = true := by
  cases e with
  | Slice l u st p => cases st with
    | none => exact ⟨_, _, _, rfl, h⟩
    | some _ => cases h
  | _ => cases h
theorem asComp_i {e : PySem.Expr} {k : PySem.Expr → PySem.Expr → PySem.Expr → List PySem.Expr → Scope → Bool} (h : asComp e k = true) : ∃ x tg it ifs sc p, e = .ListComp x [⟨tg, it, ifs, 0⟩] sc p ∧ k x tg it ifs sc = true := by
  cases e with
  | ListComp x gs sc p =>
    unfold asComp at h
    split at h
    · rename_i q
      cases q
      exact ⟨_, _, _, _, _, _, rfl, h⟩
    · cases h
  | _ => cases h
theorem asG3_i {gs : List PySem.Comprehension} {k : PySem.Expr → PySem.Expr → PySem.Expr → PySem.Expr → PySem.Expr → PySem.Expr → Bool} (h : asG3 gs k = true) : ∃ tg it tg1 it1 tg2 it2, gs = [⟨tg, it, [], 0⟩, ⟨tg1, it1, [], 0⟩, ⟨tg2, it2, [], 0⟩] ∧ k tg it tg1 it1 tg2 it2 = true := by
  unfold asG3 at h
  split at h
  · exact ⟨_, _, _, _, _, _, rfl, h⟩
  · cases h
theorem asComp3_i {e : PySem.Expr} {k : PySem.Expr → PySem.Expr → PySem.Expr → PySem.Expr → PySem.Expr → PySem.Expr → PySem.Expr → Scope → Bool} (h : asComp3 e k = true) : ∃ x tg it tg1 it1 tg2 it2 sc p, e = .ListComp x [⟨tg, it, [], 0⟩, ⟨tg1, it1, [], 0⟩, ⟨tg2, it2, [], 0⟩] sc p ∧ k x tg it tg1 it1 tg2 it2 sc = true := by
  cases e with
  | ListComp x gs sc p =>
    obtain ⟨tg, it, tg1, it1, tg2, it2, rfl, h⟩ := asG3_i h
    exact ⟨_, _, _, _, _, _, _, _, _, rfl, h⟩
  | _ => cases h
theorem asComp2_i {e : PySem.Expr} {k : PySem.Expr → PySem.Expr → PySem.Expr → List PySem.Expr → PySem.Expr → PySem.Expr → List PySem.Expr → Scope → Bool} (h : asComp2 e k = true) : ∃ x tg it ifs tg1 it1 ifs1 sc p, e = .ListComp x [⟨tg, it, ifs, 0⟩, ⟨tg1, it1, ifs1, 0⟩] sc p ∧ k x tg it ifs tg1 it1 ifs1 sc = true := by
  cases e with
  | ListComp x gs sc p =>
    unfold asComp2 at h
    split at h
    · rename_i q
      cases q
      exact ⟨_, _, _, _, _, _, _, _, _, rfl, h⟩
    · cases h
  | _ => cases h
theorem as1_i {a : Type} {l : List a} {k : a → Bool} (h : as1 l k = true) : ∃ x, l = [x] ∧ k x = true := by
  match l, h with
  | [x], h => exact ⟨x, rfl, h⟩
theorem as2_i {a : Type} {l : List a} {k : a → a → Bool} (h : as2 l k = true) : ∃ x y, l = [x, y] ∧ k x y = true := by
  match l, h with
  | [x, y], h => exact ⟨x, y, rfl, h⟩
theorem asC_i {a : Type} {l : List a} {k : a → List a → Bool} (h : asC l k = true) : ∃ x r, l = x :: r ∧ k x r = true := by
  match l, h with
  | x :: r, h => exact ⟨x, r, rfl, h⟩
mutual
def mG (Γ : Gam) : Tg → PySem.Expr → Bool
  | .nm i, e => asName e fun x => decide (Γ.N[i]? = some x) && stB Γ x
  | .tp t, e => asTup e fun es => mGs Γ t es && noStar es
  | .nil, _ => false
  | .cons _ _, _ => false
def mGs (Γ : Gam) : Tg → List PySem.Expr → Bool
  | .nil, es => es.isEmpty
  | .cons t ts, es => asC es fun e es => mG Γ t e && mGs Γ ts es
  | .nm _, _ => false
  | .tp _, _ => false
end
def ownOf (N : List Str) (vs : List Nat) : List (Str × Nat) := vs.map fun i => (N.getD i Str.empty, i)
def onePrim : Prim → Bool
  | .len | .abs | .int | .tuple | .list | .sum | .min1 | .max1 | .sorted => true
  | _ => false
def yesB : Ex → Bool
  | .lit (.bl true) => true
  | _ => false
/-- a comprehension stores into its own slots alone -/
def slB : Ex → Bool
  | .lit _ => true | .var _ => true | .gval _ => true | .emp => true
  | .tup a => slB a | .lst a => slB a
  | .bin _ a b => slB a && slB b | .neg a => slB a
  | .cmp _ a b => slB a && slB b | .cmp2 _ _ a b c => slB a && (slB b && slB c)
  | .and a b => slB a && slB b | .or a b => slB a && slB b | .not a => slB a | .ite c a b => slB c && (slB a && slB b)
  | .call _ _ a => slB a
  | .ix a b => slB a && slB b | .oix _ b => slB b
  | .sl a l h => slB a && (slB l && slB h)
  | .prim _ a => slB a | .prim2 _ a b => slB a && slB b | .isi _ a => slB a | .olen _ => true | .rev a => slB a | .rev2 a => slB a | .frm _ a => slB a | .rank _ a => slB a
  | .lc vs t s c x => (t.slots.all fun i => vs.contains i) && (slB s && (slB c && slB x))
  | .lc2 vs t s c vs1 t1 s1 c1 x => (t.slots.all fun i => vs.contains i) && ((t1.slots.all fun i => vs1.contains i) && ((vs1.all fun i => vs.contains i) && (slB s && (slB c && (slB s1 && (slB c1 && slB x))))))
  | .lc3 vs t s vs1 t1 s1 vs2 t2 s2 c x => (t.slots.all fun i => vs.contains i) && ((t1.slots.all fun i => vs1.contains i) && ((t2.slots.all fun i => vs2.contains i) && ((vs1.all fun i => vs.contains i) && ((vs2.all fun i => vs1.contains i) && (slB s && (slB s1 && (slB s2 && (slB c && slB x))))))))
  | .dl0 => true | .dl1 k v => slB k && slB v | .dget a b c => slB a && (slB b && slB c) | .cmp3 _ _ _ a b c d => slB a && (slB b && (slB c && slB d)) | .max3 a b c => slB a && (slB b && slB c)
  | .dcomp _ _ _ _ _ _ => false
  | .rng3 a b c => slB a && (slB b && slB c)
  | .lend _ a => slB a
  | .nil => true | .cons a b => slB a && slB b
  | .skeys a => slB a | .idx a b => slB a && slB b | .trng2 a b => slB a && slB b | .lkeys a => slB a | .keys a => slB a | .vals a => slB a | .pairs a => slB a
  | .items a => slB a | .rng1 a => slB a | .rng2 a b => slB a && slB b | .zip a b => slB a && slB b
/-- what may stand as a test -/
def tE : Ex → Bool
  | .ite _ _ _ => false
  | .and a b => tE a && tE b
  | .or a b => tE a && tE b
  | .not a => tE a
  | .lend _ a => tE a
  | .cmp3 _ _ _ _ _ _ _ => false
  | _ => true
def isEmpX : PySem.Expr → Bool
  | .Dict [] [] _ => true
  | _ => false
theorem isEmpX_i {e : PySem.Expr} (h : isEmpX e = true) : ∃ p, e = .Dict [] [] p := by
  unfold isEmpX at h
  split at h
  · exact ⟨_, rfl⟩
  · cases h
def isTupX : PySem.Expr → Bool
  | .Tuple _ _ _ => true
  | _ => false
/-- one plain parameter -/
def onePar (x : Str) (pp : Pos) : Arguments := { posonlyargs := [], args := [{ arg := x, annotation := none, pos := pp }], vararg := none, kwonlyargs := [], kw_defaults := [], kwarg := none, defaults := [] }
/-- the names of lambda at: y[at] -/
def lamScB (y : Str) (scope : Scope) : Bool :=
  (match scope.kind with | .function => true | _ => false) && (!scope.isCoroutine && (!scope.isGenerator && (decide (scope.names.lookup ("at" : Str) = some .local) && (decide (scope.names.lookup y = some .free) && scope.names.all fun z => match z.2 with
    | .cell => false
    | .free => decide (z.1 = y)
    | _ => true))))
/-- sorted(range(x), key=lambda at: y[at]) -/
def asRank (e : PySem.Expr) (k : PySem.Expr → Str → Scope → Str → Str → Bool) : Bool := match e with
  | .Call (.Name f _) [.Call (.Name g _) [x] [] _] [⟨some kk, .Lambda ⟨[], [⟨a, none, _⟩], none, [], [], none, []⟩ (.Subscript (.Name y _) (.Name b _) _) sc _, _⟩] _ => decide (kk = ("key" : Str)) && (decide (a = ("at" : Str)) && (decide (b = ("at" : Str)) && k x y sc f g))
  | _ => false
theorem asRank_i {e : PySem.Expr} {k : PySem.Expr → Str → Scope → Str → Str → Bool} (h : asRank e k = true) : ∃ x y sc f g p1 p2 p3 pp py pb pl pk pc p4, e = .Call (.Name f p1) [.Call (.Name g p2) [x] [] p3] [⟨some ("key" : Str), .Lambda (onePar "at" pp) (.Subscript (.Name y py) (.Name "at" pb) pl) sc pk, pc⟩] p4 ∧ k x y sc f g = true := by
  unfold asRank at h
  split at h
  · simp only [Bool.and_eq_true, decide_eq_true_eq] at h
    obtain ⟨rfl, rfl, rfl, h⟩ := h
    exact ⟨_, _, _, _, _, _, _, _, _, _, _, _, _, _, _, rfl, h⟩
  · cases h
/-- x.n() -/
def asMeth (n : Str) (e : PySem.Expr) (k : PySem.Expr → Bool) : Bool := match e with
  | .Call (.Attribute (.Name x p) m ap) [] [] cp => decide (m = n) && ((ap.endLine == cp.line) && k (.Name x p))
  | _ => false
def asMeth1 (n : Str) (e : PySem.Expr) (k : PySem.Expr → PySem.Expr → Bool) : Bool := match e with
  | .Call (.Attribute (.Name x p) m ap) [y] [] cp => decide (m = n) && ((ap.endLine == cp.line) && k (.Name x p) y)
  | _ => false
theorem asMeth1_i {n : Str} {e : PySem.Expr} {k : PySem.Expr → PySem.Expr → Bool} (h : asMeth1 n e k = true) : ∃ x p ap cp y, e = .Call (.Attribute (.Name x p) n ap) [y] [] cp ∧ (ap.endLine == cp.line) = true ∧ k (.Name x p) y = true := by
  unfold asMeth1 at h
  split at h
  · simp only [Bool.and_eq_true, decide_eq_true_eq] at h
    obtain ⟨rfl, h1, h2⟩ := h
    exact ⟨_, _, _, _, _, rfl, h1, h2⟩
  · cases h
theorem asMeth_i {n : Str} {e : PySem.Expr} {k : PySem.Expr → Bool} (h : asMeth n e k = true) : ∃ x p ap cp, e = .Call (.Attribute (.Name x p) n ap) [] [] cp ∧ (ap.endLine == cp.line) = true ∧ k (.Name x p) = true := by
  unfold asMeth at h
  split at h
  · simp only [Bool.and_eq_true, decide_eq_true_eq] at h
    obtain ⟨rfl, h1, h2⟩ := h
    exact ⟨_, _, _, _, rfl, h1, h2⟩
  · cases h
def asT3 {a : Type} (l : List a) (k : a → a → a → Bool) : Bool := match l with
  | [x, y, z] => k x y z
  | _ => false
theorem asT3_i {a : Type} {l : List a} {k : a → a → a → Bool} (h : asT3 l k = true) : ∃ x y z, l = [x, y, z] ∧ k x y z = true := by
  unfold asT3 at h
  split at h
  · exact ⟨_, _, _, rfl, h⟩
  · cases h
/-- a dict written out: one pair -/
def asDict1 (e : PySem.Expr) (k : PySem.Expr → PySem.Expr → Bool) : Bool := match e with
  | .Dict [some x] [y] _ => k x y
  | _ => false
theorem asDict1_i {e : PySem.Expr} {k : PySem.Expr → PySem.Expr → Bool} (h : asDict1 e k = true) : ∃ x y p, e = .Dict [some x] [y] p ∧ k x y = true := by
  unfold asDict1 at h
  split at h
  · exact ⟨_, _, _, rfl, h⟩
  · cases h
/-- a value that a method is asked of: a name, a call -/
def asMethX1 (n : Str) (e : PySem.Expr) (k : PySem.Expr → PySem.Expr → Bool) : Bool := match e with
  | .Call (.Attribute (.Name x p) m ap) [y] [] cp => decide (m = n) && ((ap.endLine == cp.line) && k (.Name x p) y)
  | .Call (.Attribute (.Call x (x0 :: xs) ks p) m ap) [y] [] cp => decide (m = n) && ((ap.endLine == cp.line) && k (.Call x (x0 :: xs) ks p) y)
  | _ => false
theorem asMethX1_i {n : Str} {e : PySem.Expr} {k : PySem.Expr → PySem.Expr → Bool} (h : asMethX1 n e k = true) : ∃ x ap cp y, e = .Call (.Attribute x n ap) [y] [] cp ∧ (ap.endLine == cp.line) = true ∧ ((∃ z p, x = .Name z p) ∨ ∃ f x0 xs ks p, x = .Call f (x0 :: xs) ks p) ∧ k x y = true := by
  unfold asMethX1 at h
  split at h
  · simp only [Bool.and_eq_true, decide_eq_true_eq] at h
    obtain ⟨rfl, h1, h2⟩ := h
    exact ⟨_, _, _, _, rfl, h1, .inl ⟨_, _, rfl⟩, h2⟩
  · simp only [Bool.and_eq_true, decide_eq_true_eq] at h
    obtain ⟨rfl, h1, h2⟩ := h
    exact ⟨_, _, _, _, rfl, h1, .inr ⟨_, _, _, _, _, rfl⟩, h2⟩
  · cases h
mutual
def mE (Γ : Gam) : Ex → PySem.Expr → Bool
  | .lit d, e => asCon e fun c => litB d c
  | .var i, e => asName e fun x => decide (Γ.N[i]? = some x) && visB Γ x
  | .gval g, e => asName e fun x => decide (Γ.gls[g]? = some x) && glB Γ x
  | .emp, e => isEmpX e
  | .tup as, e => asTup e fun es => mL Γ as es
  | .lst as, e => asLst e fun es => mL Γ as es
  | .bin o a b, e => asBin e fun p x y => decide (p = opOf o) && (mE Γ a x && mE Γ b y)
  | .neg a, e => asUn e fun p x => decide (p = .USub) && mE Γ a x
  | .cmp o a b, e => asCmp e fun x ps ys => as1 ps fun p => as1 ys fun y => decide (p = copOf o) && (!isSet y && (mE Γ a x && mE Γ b y))
  | .cmp2 o q a b c, e => asCmp e fun x ps ys => as2 ps fun p r => as2 ys fun y z => decide (p = copOf o) && (decide (r = copOf q) && (!isSet z && (mE Γ a x && (mE Γ b y && mE Γ c z))))
  | .and a b, e => asBoo e fun o es pos => decide (o = .And) && asC es fun x r => mE Γ a x && asC r fun y r2 => (match r2 with
    | [] => mE Γ b y
    | _ => mE Γ b (.BoolOp .And (y :: r2) pos))
  | .or a b, e => asBoo e fun o es pos => decide (o = .Or) && asC es fun x r => mE Γ a x && asC r fun y r2 => (match r2 with
    | [] => mE Γ b y
    | _ => mE Γ b (.BoolOp .Or (y :: r2) pos))
  | .not a, e => asUn e fun p x => decide (p = .Not) && mE Γ a x
  | .ite c a b, e => asIf e fun x y z => tE c && (mE Γ c x && (mE Γ a y && mE Γ b z))
  | .call f io as, e => asCall e fun x es => glB Γ x && ((match Γ.fns[f]? with
    | some fi => decide (fi.name = x) && (fi.io == io.isSome)
    | none => false) && (match io with
      | none => asC es fun e es => noStar (e :: es) && mL Γ as (e :: es)
      | some i => asC es fun e es => noStar es && (mL Γ as es && asName e fun y => decide (Γ.N[i]? = some y) && visB Γ y)))
  | .ix a b, e => asSub e fun x y => !isSl y && (mE Γ a x && mE Γ b y)
  | .oix i b, e => asSub e fun x y => !isSl y && (mE Γ b y && asName x fun z => decide (Γ.N[i]? = some z) && visB Γ z)
  | .sl a lo hi, e => asSub e fun x y => mE Γ a x && asSl y fun l h => (match l with
    | none => noneB lo
    | some z => !noneB lo && mE Γ lo z) && (match h with
    | none => noneB hi
    | some z => !noneB hi && mE Γ hi z)
  | .prim p as, e => asCall e fun x es => glB Γ x && (decide (x = p.name) && (onePrim p && as1 es fun y => mL Γ as [y]))
  | .isi p a, e => asCall e fun x es => glB Γ x && (decide (x = ("isinstance" : Str)) && as2 es fun y z => !isStar y && (mE Γ a y && clsB Γ p z))
  | .prim2 p a b, e => asCall e fun x es => glB Γ x && (decide (x = p.name) && as2 es fun y z => !isStar y && (!isStar z && (mE Γ a y && mE Γ b z)))
  | .rev a, e => asSub e fun x y => isRevSl y && mE Γ a x
  | .rev2 a, e => asSub e fun x y => isRev2Sl y && mE Γ a x
  | .frm k a, e => asCall e fun x es => glB Γ x && as1 es fun y => asCall y fun z fs => glB Γ z && as1 fs fun w => !isStar w && (mE Γ a w && (match k with
    | .lset => decide (x = ("len" : Str)) && decide (z = ("set" : Str))
    | .lrng => decide (x = ("list" : Str)) && decide (z = ("range" : Str))
    | .sset => decide (x = ("sorted" : Str)) && decide (z = ("set" : Str))
    | .trng => decide (x = ("tuple" : Str)) && decide (z = ("range" : Str))))
  | .rank i a, e => asRank e fun x y sc f g => decide (f = ("sorted" : Str)) && (decide (g = ("range" : Str)) && (glB Γ f && (glB Γ g && (decide (Γ.N[i]? = some y) && (decide (Γ.sc.names.lookup y = some .cell) && (!badName y && (lamScB y sc && (Γ.lm && (!isStar x && mE Γ a x)))))))))
  | .olen i, e => asCall e fun x es => decide (x = ("len" : Str)) && (glB Γ x && as1 es fun y => asName y fun z => decide (Γ.N[i]? = some z) && visB Γ z)
  | .lc vs t src cond elt, e => asComp e fun x tg it ifs scope => blkC Γ.N Γ.sc scope (ownOf Γ.N vs) && (!isSet it && (mI Γ tg src it && (mG (Γ.blk scope) t tg && ((t.slots.all fun i => vs.contains i) &&
      (mE (Γ.blk scope) elt x && (match ifs with
        | [] => yesB cond
        | _ => as1 ifs fun c => mE (Γ.blk scope) cond c && tE cond))))))
  | .lc2 vs t src cond vs1 t1 src1 cond1 elt, e => asComp2 e fun x tg it ifs tg1 it1 ifs1 scope => blkC Γ.N Γ.sc scope (ownOf Γ.N vs) && (!isSet it && (!isSet it1 && (mI Γ tg src it && (mG (Γ.blk scope) t tg && ((t.slots.all fun i => vs.contains i) &&
      (mI (Γ.blk scope) tg1 src1 it1 && (mG (Γ.blk scope) t1 tg1 && ((t1.slots.all fun i => vs1.contains i) && ((vs1.all fun i => vs.contains i) &&
      (mE (Γ.blk scope) elt x && ((match ifs with
        | [] => yesB cond
        | _ => as1 ifs fun c => mE (Γ.blk scope) cond c && tE cond) && (match ifs1 with
        | [] => yesB cond1
        | _ => as1 ifs1 fun c => mE (Γ.blk scope) cond1 c && tE cond1))))))))))))
  | .lend _ a, e => slB a && mE Γ a e
  | .lc3 vs t src vs1 t1 src1 vs2 t2 src2 cond elt, e => asComp3 e fun x tg it tg1 it1 tg2 it2 scope => blkC Γ.N Γ.sc scope (ownOf Γ.N vs) && (!isSet it && (!isSet it1 && (!isSet it2 && ((t.slots.all fun i => vs.contains i) && ((t1.slots.all fun i => vs1.contains i) && ((t2.slots.all fun i => vs2.contains i) &&
      ((vs1.all fun i => vs.contains i) && ((vs2.all fun i => vs1.contains i) && (mI Γ tg src it && (mG (Γ.blk scope) t tg && (mI (Γ.blk scope) tg1 src1 it1 && (mG (Γ.blk scope) t1 tg1 && (mI (Γ.blk scope) tg2 src2 it2 && (mG (Γ.blk scope) t2 tg2 && (yesB cond && mE (Γ.blk scope) elt x)))))))))))))))
  | .dl0, e => isEmpX e
  | .dl1 k v, e => asDict1 e fun x y => mE Γ k x && mE Γ v y
  | .dcomp _ _ _ _ _ _, _ => false
  | .dget _ _ _, _ => false
  | .cmp3 o q r a b c d, e => asCmp e fun x ps ys => asT3 ps fun p1 p2 p3 => asT3 ys fun y z w => decide (p1 = copOf o) && (decide (p2 = copOf q) && (decide (p3 = copOf r) && (!isSet w && (mE Γ a x && (mE Γ b y && (mE Γ c z && mE Γ d w))))))
  | .max3 a b c, e => asCall e fun x es => decide (x = ("max" : Str)) && (glB Γ x && asT3 es fun y z w => !isStar y && (!isStar z && (!isStar w && (mE Γ a y && (mE Γ b z && mE Γ c w)))))
  | .rng3 _ _ _, _ => false
  | .nil, _ => false
  | .cons _ _, _ => false
  | .skeys a, e => asCall e fun x es => decide (x = ("sorted" : Str)) && (glB Γ x && as1 es fun y => asMeth ("keys" : Str) y fun w => mE Γ a w)
  | .idx a b, e => asMethX1 ("index" : Str) e fun w y => !isStar y && (mE Γ a w && mE Γ b y)
  | .trng2 a b, e => asCall e fun x es => decide (x = ("tuple" : Str)) && (glB Γ x && as1 es fun y => asCall y fun z fs => decide (z = ("range" : Str)) && (glB Γ z && as2 fs fun w v => !isStar w && (!isStar v && (mE Γ a w && mE Γ b v))))
  | .lkeys _, _ => false
  | .keys _, _ => false
  | .vals _, _ => false
  | .pairs _, _ => false
  | .items _, _ => false
  | .rng1 _, _ => false
  | .rng2 _ _, _ => false
  | .zip _ _, _ => false
def mL (Γ : Gam) : Ex → List PySem.Expr → Bool
  | .nil, es => es.isEmpty
  | .cons a as, es => asC es fun e es => !isStar e && (mE Γ a e && mL Γ as es)
  | _, _ => false
/-- what is walked -/
def mI (Γ : Gam) (tg : PySem.Expr) : Ex → PySem.Expr → Bool
  | .items a, e => mE Γ a e
  | .rng1 a, e => asCall e fun x es => decide (x = ("range" : Str)) && (glB Γ x && as1 es fun y => !isStar y && mE Γ a y)
  | .rng2 a b, e => asCall e fun x es => decide (x = ("range" : Str)) && (glB Γ x && as2 es fun y z => !isStar y && (!isStar z && (mE Γ a y && mE Γ b z)))
  | .keys a, e => asMeth ("keys" : Str) e fun w => mE Γ a w
  | .vals a, e => asMeth ("values" : Str) e fun w => mE Γ a w
  | .rng3 a b c, e => asCall e fun x es => decide (x = ("range" : Str)) && (glB Γ x && asT3 es fun y z w => !isStar y && (!isStar z && (!isStar w && (mE Γ a y && (mE Γ b z && mE Γ c w)))))
  | .zip a b, e => isTupX tg && asCall e fun x es => decide (x = ("zip" : Str)) && (glB Γ x && as2 es fun y z => !isStar y && (!isStar z && (mE Γ a y && mE Γ b z)))
  | _, _ => false
end
end Ev
set_option Elab.async false
set_option linter.all false
set_option maxRecDepth 100000
set_option maxHeartbeats 4000000
set_option autoImplicit false
/-! Ev4: built-ins by values; what is wanted behind a tree; the ground. -/
namespace Ev
open PySem PySem.Spec PyProof.Rows L2
section
variable {K : PySem.W.Frag} {O : Addr → Prop} {H H' : Hp} {X : Cx}
def rPrim (K : PySem.W.Frag) (p : Prim) : List V → Hp → VK → Prop := fun xs H Q => ∃ O ds d, (∀ a, O a → H a ≠ none) ∧ Rps K O H ds xs ∧ prim p ds = some d ∧ VOk K O H d Q
theorem prim_one {p : Prim} {ds : List D} {d : D} (h : prim p ds = some d) : ∃ x, ds = [x] := by
  match ds with
  | [] => cases p <;> cases h
  | [x] => exact ⟨x, rfl⟩
  | x :: y :: r => cases p <;> cases x <;> cases h
theorem Rps.one {x : D} {vs : List V} (h : Rps K O H [x] vs) : ∃ v, vs = [v] ∧ Rp K O H x v := by
  obtain ⟨v, r, e, h1, h2⟩ := h.uncons
  rw [h2.unnil] at e
  exact ⟨v, e, h1⟩
theorem ent_len : ∀ {ds : List D} {vs : List V}, evn ds = true → Rps K O H ds vs → (ent ds vs).length = (keysD ds).length
  | [], vs, _, h => by rw [h.unnil]; rfl
  | [_], _, h, _ => by cases h
  | k :: d :: ds, vs, he, h => by
    obtain ⟨v, r, rfl, h1, h2⟩ := h.uncons
    obtain ⟨u, q, rfl, h3, h4⟩ := h2.uncons
    simp only [ent, keysD, List.length_cons, ent_len (ds := ds) he h4]
theorem dic_rawAt {X : Cx} {pins : List (Addr × Obj)} {σ : L2.St} {H : Hp} {s : Shared} (I : Inv X pins σ H s) {a : Addr} {es : List DE} (ha : DicAt H a es) : ∃ arr ep, s.heap.DictRaw a arr ep ∧ (a == sysModules) = false ∧ arr.size ≤ sizeLine ∧ Paired DER es arr.toList := by
  obtain ⟨ob, ha⟩ := ha
  obtain ⟨h1, _, _⟩ := I.hok a _ ha
  obtain ⟨z, hs, o, arr, ep, e1, e2, e3, e4, _⟩ := h1
  refine ⟨arr, ep, ⟨o, e1, e2, e3⟩, hs, ?_, e4⟩
  rw [← Array.length_toList, ← Paired.length e4]
  exact z
theorem call_len_dictR {prog : Program} {w : World} {A : Around} {E : Value → Shared → Prop} {s : Shared} {d : Addr} {es : Array DictEntry} {ep : Nat} {Q : Value → Shared → Prop} (hd : (d == sysModules) = false) (hm : s.heap.DictRaw d es ep) (hfit : (es.size : Int) < 2 ^ 63)
    (h : Q (.int es.size (s.toks + 1)) { s with toks := s.toks + 1 + 1 }) : wpAny (model prog w) A (call (.builtin "len") [.ref d]) Q E s := by
  refine Calls.call_function_entry kind_len plain_len entry_len (args_len1 _) ?_
  unfold Builtin.«len»
  refine wpAny_bind (m := oneArg "len" _) (wpAny_pure ?_)
  refine wpAny_bind (m := callSpecial? (.ref d) (Str.ofString "__len__")) (wpAny_callSpecial?_slot (name := Str.ofString "__len__") hm.typeIs F.slot_dict_len
    (call_meetsIn F.slot_dict_len hm.typeIs F.entry_dict_len (F.args_dict_len_1 _) (meets_dict_len_raw d hd) ⟨es, ep, hm, ?_⟩))
  show wpAny _ _ _ _ _ { s with toks := s.toks + 1 }
  refine wpAny_bind (wpAny_holding (wpAny_pure ?_))
  refine wpAny_bind (wpAny_letGo ?_)
  show wpAny _ _ (if ((es.size : Nat) : Int) < 0 then _ else _) _ _ _
  rw [if_neg (by omega)]
  show wpAny _ _ (if ((es.size : Nat) : Int) ≥ 2 ^ 63 then _ else _) _ _ _
  rw [if_neg (by omega)]
  exact wpAny_bind (wpAny_mkInt (wpAny_pure ⟨_, rfl, h⟩))
theorem len_ok : CallR X (.builtin "len") (rPrim X.K .len) := by
  intro pins s σ H xs us Q I rv h
  obtain ⟨O, ds, d, hO, r, hp, q⟩ := h
  obtain ⟨x, rfl⟩ := prim_one hp
  obtain ⟨v, rfl, hx⟩ := r.one
  cases x with
  | tup as =>
    simp only [prim] at hp
    split at hp
    · cases hp
      obtain ⟨a, vs, e, s1, r1⟩ := hx.untup
      refine call_len_seq pins s σ H _ us Q I rv ⟨a, vs, by rw [e], .inr s1, ?_⟩
      rw [← r1.len]
      exact q.same (.int _)
    · cases hp
  | lst as =>
    simp only [prim] at hp
    split at hp
    · cases hp
      obtain ⟨a, vs, e, _, s1, r1⟩ := hx.unlst
      refine call_len_seq pins s σ H _ us Q I rv ⟨a, vs, by rw [e], .inl (.inl (.inl s1)), ?_⟩
      rw [← r1.len]
      exact q.same (.int _)
    · cases hp
  | fz as =>
    simp only [prim] at hp
    split at hp
    · cases hp
      obtain ⟨a, vs, e, s1, r1⟩ := hx.unfz
      refine call_len_seq pins s σ H _ us Q I rv ⟨a, vs, by rw [e], .inl s1, ?_⟩
      rw [← r1.len]
      exact q.same (.int _)
    · cases hp
  | dic ds =>
    simp only [prim] at hp
    split at hp
    · cases hp
      obtain ⟨a, vs, rfl, _, s1, ok, r1⟩ := hx.undic
      rw [Vals.ref1 rv]
      obtain ⟨arr, ep, hr, hsm, hsz, hp⟩ := dic_rawAt I s1
      have el : arr.size = (keysD ds).length := by rw [← ent_len ok.ev r1, Paired.length hp, Array.length_toList]
      refine call_len_dictR hsm hr (by rw [sizeLine_eq] at hsz; omega) ?_
      rw [el]
      exact ⟨.int (keysD ds).length, H, I.tok _, ⟨_, rfl⟩, q.same (.int _)⟩
    · cases hp
  | _ => cases hp
theorem abs_ok : CallR X (.builtin "abs") (rPrim X.K .abs) := by
  intro pins s σ H xs us Q I rv h
  obtain ⟨O, ds, d, hO, r, hp, q⟩ := h
  obtain ⟨x, rfl⟩ := prim_one hp
  obtain ⟨v, rfl, hx⟩ := r.one
  cases x with
  | int i =>
    cases hp
    exact call_abs pins s σ H _ us Q I rv ⟨i, by rw [hx.unint], q.same (.int _)⟩
  | _ => cases hp
theorem int_ok : CallR X (.type "int") (rPrim X.K .int) := by
  intro pins s σ H xs us Q I rv h
  obtain ⟨O, ds, d, hO, r, hp, q⟩ := h
  obtain ⟨x, rfl⟩ := prim_one hp
  obtain ⟨v, rfl, hx⟩ := r.one
  cases x with
  | int i =>
    cases hp
    exact call_int1 pins s σ H _ us Q I rv (.inl ⟨i, by rw [hx.unint], q.same (.int _)⟩)
  | bl b =>
    cases hp
    exact call_int1 pins s σ H _ us Q I rv (.inr ⟨b, by rw [hx.unbl], q.same (.int _)⟩)
  | _ => cases hp
theorem tuple_ok : CallR X (.type "tuple") (rPrim X.K .tuple) := by
  intro pins s σ H xs us Q I rv h
  obtain ⟨O, ds, d, hO, r, hp, q⟩ := h
  obtain ⟨x, rfl⟩ := prim_one hp
  obtain ⟨v, rfl, hx⟩ := r.one
  cases x with
  | tup as =>
    cases hp
    obtain ⟨a, vs, e, s1, r1⟩ := hx.untup
    exact call_tuple_of pins s σ H _ us Q I rv ⟨a, vs, by rw [e], .inr ⟨s1, q.same (.tup s1 r1)⟩⟩
  | lst as =>
    cases hp
    obtain ⟨a, vs, e, _, s1, r1⟩ := hx.unlst
    exact call_tuple_of pins s σ H _ us Q I rv ⟨a, vs, by rw [e], .inl ⟨.inl (.inl s1), fun l hl => q.newT r1 hl⟩⟩
  | _ => cases hp
theorem list_ok : CallR X (.type "list") (rPrim X.K .list) := by
  intro pins s σ H xs us Q I rv h
  obtain ⟨O, ds, d, hO, r, hp, q⟩ := h
  obtain ⟨x, rfl⟩ := prim_one hp
  obtain ⟨v, rfl, hx⟩ := r.one
  cases x with
  | tup as =>
    cases hp
    obtain ⟨a, vs, e, s1, r1⟩ := hx.untup
    exact call_list_of pins s σ H _ us Q I rv ⟨a, vs, by rw [e], .inr s1, fun l hl => q.newL hO r1 hl⟩
  | lst as =>
    cases hp
    obtain ⟨a, vs, e, _, s1, r1⟩ := hx.unlst
    exact call_list_of pins s σ H _ us Q I rv ⟨a, vs, by rw [e], .inl (.inl (.inl s1)), fun l hl => q.newL hO r1 hl⟩
  | _ => cases hp
theorem leastOf_ok : ∀ (is : List Int) (m : Int), leastOf is m ∈ m :: is ∧ ∀ y ∈ m :: is, leastOf is m ≤ y
  | [], m => ⟨List.mem_cons_self, fun y hy => by cases List.mem_singleton.mp hy; exact Int.le_refl _⟩
  | i :: is, m => by
    unfold leastOf
    split
    · rename_i h
      obtain ⟨a, b⟩ := leastOf_ok is i
      refine ⟨List.mem_cons_of_mem _ a, fun y hy => ?_⟩
      rcases List.mem_cons.mp hy with rfl | hy
      · exact Int.le_trans (b i List.mem_cons_self) (Int.le_of_lt h)
      · exact b y hy
    · rename_i h
      obtain ⟨a, b⟩ := leastOf_ok is m
      refine ⟨?_, fun y hy => ?_⟩
      · rcases List.mem_cons.mp a with e | e
        · rw [e]; exact List.mem_cons_self
        · exact List.mem_cons_of_mem _ (List.mem_cons_of_mem _ e)
      · rcases List.mem_cons.mp hy with rfl | hy
        · exact b _ List.mem_cons_self
        · rcases List.mem_cons.mp hy with rfl | hy
          · exact Int.le_trans (b m List.mem_cons_self) (by omega)
          · exact b y (List.mem_cons_of_mem _ hy)
theorem mostOf_ok : ∀ (is : List Int) (m : Int), mostOf is m ∈ m :: is ∧ ∀ y ∈ m :: is, y ≤ mostOf is m
  | [], m => ⟨List.mem_cons_self, fun y hy => by cases List.mem_singleton.mp hy; exact Int.le_refl _⟩
  | i :: is, m => by
    unfold mostOf
    split
    · rename_i h
      obtain ⟨a, b⟩ := mostOf_ok is i
      refine ⟨List.mem_cons_of_mem _ a, fun y hy => ?_⟩
      rcases List.mem_cons.mp hy with rfl | hy
      · exact Int.le_trans (Int.le_of_lt h) (b i List.mem_cons_self)
      · exact b y hy
    · rename_i h
      obtain ⟨a, b⟩ := mostOf_ok is m
      refine ⟨?_, fun y hy => ?_⟩
      · rcases List.mem_cons.mp a with e | e
        · rw [e]; exact List.mem_cons_self
        · exact List.mem_cons_of_mem _ (List.mem_cons_of_mem _ e)
      · rcases List.mem_cons.mp hy with rfl | hy
        · exact b _ List.mem_cons_self
        · rcases List.mem_cons.mp hy with rfl | hy
          · exact Int.le_trans (by omega) (b m List.mem_cons_self)
          · exact b y (List.mem_cons_of_mem _ hy)
theorem sum_ok (hc : X.calm = true) : CallR X (.builtin "sum") (rPrim X.K .sum) := by
  intro pins s σ H xs us Q I rv h
  obtain ⟨O, ds, d, hO, r, hp, q⟩ := h
  obtain ⟨x, rfl⟩ := prim_one hp
  obtain ⟨v, rfl, hx⟩ := r.one
  cases x with
  | lst as =>
    simp only [prim] at hp
    cases z : intsOf as with
    | none => rw [z] at hp; cases hp
    | some ns =>
      rw [z] at hp
      cases hp
      obtain ⟨a, vs, e, _, s1, r1⟩ := hx.unlst
      rw [intsOf_eq z] at r1
      rw [r1.ints_eq] at s1
      exact cr_sum hc pins s σ H _ us Q I rv ⟨a, ns, by rw [e], .inl (.inl s1), q.same (.int _)⟩
  | tup as =>
    simp only [prim] at hp
    cases z : intsOf as with
    | none => rw [z] at hp; cases hp
    | some ns =>
      rw [z] at hp
      cases hp
      obtain ⟨a, vs, e, s1, r1⟩ := hx.untup
      subst e
      rw [intsOf_eq z] at r1
      rw [r1.ints_eq] at s1
      obtain ⟨its, rv', pl, hz⟩ := I.tuple s1
      rw [Vals.ref1 rv]
      have hi : IntsAre its ns := rv'.ints
      obtain ⟨xs, ex⟩ := hi.allInts.items
      have hn : numsOf (intItems xs).toList = ns := by rw [← ex]; exact hi.numsOf
      rw [nums_intItems] at hn
      rw [ex] at pl
      refine PySem.W.ktm_sumG (I.ok.hd hc) pl fun h' tk t' hk => ?_
      have hs : preSum (numAt xs) xs.size = ns.sum := by rw [preSum_eq, List.take_of_length_le (by simp), hn]
      rw [hs]
      exact ⟨.int ns.sum, H, I.kept hk, ⟨_, rfl⟩, q.same (.int _)⟩
  | _ => cases hp
theorem max_ok (hc : X.calm = true) : CallR X (.builtin "max") (rPrim X.K .max1) := by
  intro pins s σ H xs us Q I rv h
  obtain ⟨O, ds, d, hO, r, hp, q⟩ := h
  obtain ⟨x, rfl⟩ := prim_one hp
  obtain ⟨v, rfl, hx⟩ := r.one
  cases x with
  | lst as =>
    simp only [prim] at hp
    split at hp
    · rename_i i is z
      cases hp
      obtain ⟨a, vs, e, _, s1, r1⟩ := hx.unlst
      rw [intsOf_eq z] at r1
      rw [r1.ints_eq] at s1
      refine cr_max hc pins s σ H _ us Q I rv ⟨a, i :: is, by rw [e], .inl (.inl s1), Nat.succ_pos _, fun m h1 h2 => ?_⟩
      obtain ⟨k1, k2⟩ := mostOf_ok is i
      have e : m = mostOf is i := Int.le_antisymm (k2 _ h1) (h2 _ k1)
      rw [e]
      exact q.same (.int _)
    · cases hp
  | _ => cases hp
/-! ### sorted -/
section
open PySem.W
mutual
theorem alk_toP : ∀ (d e : D), D.pur d = true → PySem.W.alike (toP d) (toP e) = true ∨ D.alk d e = false
  | .int i, e, _ => by cases e <;> simp [toP, PySem.W.alike, D.alk]
  | .tup ds, e, h => by
    cases e with
    | tup es =>
      simp only [toP, PySem.W.alike, D.alk]
      exact alks_toPs ds es (by simpa [D.pur] using h)
    | _ => simp [D.alk]
  | .dic _, _, h => by simp [D.pur] at h
  | .non, _, h => by simp [D.pur] at h
  | .bl _, _, h => by simp [D.pur] at h
  | .str _, _, h => by simp [D.pur] at h
  | .lst _, _, h => by simp [D.pur] at h
  | .fz _, _, h => by simp [D.pur] at h
  | .emp, _, h => by simp [D.pur] at h
theorem alks_toPs : ∀ (ds es : List D), D.purs ds = true → PySem.W.alikeAll (toPs ds) (toPs es) = true ∨ D.alks ds es = false
  | [], es, _ => .inl (by cases es <;> simp [toPs, PySem.W.alikeAll])
  | d :: ds, [], _ => .inl (by simp [toPs, PySem.W.alikeAll])
  | d :: ds, e :: es, h => by
    simp only [D.purs, Bool.and_eq_true] at h
    simp only [toPs, PySem.W.alikeAll, D.alks, Bool.and_eq_true, Bool.and_eq_false_iff]
    rcases alk_toP d e h.1 with q | q
    · rcases alks_toPs ds es h.2 with r | r
      · exact .inl ⟨q, r⟩
      · exact .inr (.inr r)
    · exact .inr (.inl q)
end
mutual
theorem toks_toP : ∀ (d : D), D.pur d = true → PySem.W.keyToks (toP d) = (D.toks d).map Sum.inl
  | .int i, _ => by simp [toP, PySem.W.keyToks, D.toks]
  | .tup ds, h => by
    simp only [toP, PySem.W.keyToks, D.toks]
    exact toksL_toPs ds (by simpa [D.pur] using h)
  | .non, h => by simp [D.pur] at h
  | .bl _, h => by simp [D.pur] at h
  | .str _, h => by simp [D.pur] at h
  | .lst _, h => by simp [D.pur] at h
  | .fz _, h => by simp [D.pur] at h
  | .emp, h => by simp [D.pur] at h
  | .dic _, h => by simp [D.pur] at h
theorem toksL_toPs : ∀ (ds : List D), D.purs ds = true → PySem.W.keyToksAll (toPs ds) = (D.toksL ds).map Sum.inl
  | [], _ => by simp [toPs, PySem.W.keyToksAll, D.toksL]
  | d :: ds, h => by
    simp only [D.purs, Bool.and_eq_true] at h
    simp only [toPs, PySem.W.keyToksAll, D.toksL, List.map_cons, List.map_append]
    rw [toks_toP d h.1, toksL_toPs ds h.2]
end
theorem lexLt_ints : ∀ (xs ys : List Int), PyProof.Rows.lexLt itemOrd (xs.map Sum.inl) (ys.map Sum.inl) = ltTk xs ys
  | [], [] => rfl
  | [], _ :: _ => rfl
  | _ :: _, [] => rfl
  | x :: xs, y :: ys => by
    simp only [List.map_cons, ltTk]
    show (decide (x < y) || (!decide (y < x) && PyProof.Rows.lexLt itemOrd (xs.map Sum.inl) (ys.map Sum.inl))) = _
    rw [lexLt_ints xs ys]
    by_cases h : x = y
    · subst h
      simp
    · rw [if_neg h]
      by_cases k : x < y
      · simp [k]
      · have : y < x := by omega
        simp [k, this]
theorem leD_toP {a b : D} (ha : D.pur a = true) (hb : D.pur b = true) : dataLe false toP a b = leD a b := by
  show (!PyProof.Rows.lexLt itemOrd (PySem.W.keyToks (toP b)) (PySem.W.keyToks (toP a))) = _
  rw [toks_toP a ha, toks_toP b hb, lexLt_ints]
  rfl
theorem insB_mem {α : Type} {le : α → α → Bool} {x : α} : ∀ {l : List α} {z : α}, z ∈ insB le x l ↔ z = x ∨ z ∈ l
  | [], z => by simp [insB]
  | y :: ys, z => by
    simp only [insB]
    split
    · simp
    · rw [List.mem_cons, insB_mem, List.mem_cons]
      constructor
      · rintro (h | h | h)
        · exact .inr (.inl h)
        · exact .inl h
        · exact .inr (.inr h)
      · rintro (h | h | h)
        · exact .inr (.inl h)
        · exact .inl h
        · exact .inr (.inr h)
theorem srtB_mem {α : Type} {le : α → α → Bool} : ∀ {l : List α} {z : α}, z ∈ srtB le l ↔ z ∈ l
  | [], z => by simp [srtB]
  | y :: ys, z => by rw [srtB, insB_mem, srtB_mem, List.mem_cons]
theorem insB_congr {α : Type} {le le' : α → α → Bool} {x : α} : ∀ {l : List α}, (∀ z ∈ l, le x z = le' x z) → insB le x l = insB le' x l
  | [], _ => rfl
  | y :: ys, h => by
    simp only [insB]
    rw [h y List.mem_cons_self, insB_congr fun z hz => h z (List.mem_cons_of_mem _ hz)]
theorem srtB_congr {α : Type} {le le' : α → α → Bool} : ∀ {l : List α}, (∀ a ∈ l, ∀ b ∈ l, le a b = le' a b) → srtB le l = srtB le' l
  | [], _ => rfl
  | x :: l, h => by
    rw [srtB, srtB, srtB_congr fun a ha b hb => h a (List.mem_cons_of_mem _ ha) b (List.mem_cons_of_mem _ hb)]
    exact insB_congr fun z hz => h x List.mem_cons_self z (List.mem_cons_of_mem _ (srtB_mem.mp hz))
theorem insB_pw {α : Type} {le : α → α → Bool} (T : TotalLe le) {x : α} : ∀ {l : List α}, l.Pairwise (fun a b => le a b = true) → (insB le x l).Pairwise (fun a b => le a b = true)
  | [], _ => by simp [insB]
  | y :: ys, h => by
    obtain ⟨h1, h2⟩ := List.pairwise_cons.mp h
    simp only [insB]
    split
    · rename_i k
      refine List.pairwise_cons.mpr ⟨fun z hz => ?_, h⟩
      rcases List.mem_cons.mp hz with e | hz
      · rw [e]; exact k
      · exact T.trans _ _ _ k (h1 z hz)
    · rename_i k
      refine List.pairwise_cons.mpr ⟨fun z hz => ?_, insB_pw T h2⟩
      rcases insB_mem.mp hz with e | hz
      · rw [e]
        exact (T.total y x).elim id fun q => absurd q k
      · exact h1 z hz
theorem srtB_pw {α : Type} {le : α → α → Bool} (T : TotalLe le) : ∀ (l : List α), (srtB le l).Pairwise (fun a b => le a b = true)
  | [] => List.Pairwise.nil
  | x :: l => insB_pw T (srtB_pw T l)
theorem insB_filter {α : Type} {le : α → α → Bool} (T : TotalLe le) {x c : α} : ∀ (l : List α), (insB le x l).filter (sameRank le c) = (x :: l).filter (sameRank le c)
  | [] => rfl
  | y :: ys => by
    simp only [insB]
    split
    · rfl
    · rename_i k
      rw [List.filter_cons, insB_filter T ys, List.filter_cons, List.filter_cons, List.filter_cons]
      cases hx : sameRank le c x with
      | false => simp
      | true =>
        cases hy : sameRank le c y with
        | false => simp
        | true =>
          unfold sameRank at hx hy
          rw [Bool.and_eq_true] at hx hy
          exact absurd (T.trans _ _ _ hx.2 hy.1) k
theorem srtB_filter {α : Type} {le : α → α → Bool} (T : TotalLe le) {c : α} : ∀ (l : List α), (srtB le l).filter (sameRank le c) = l.filter (sameRank le c)
  | [] => rfl
  | x :: l => by
    rw [srtB, insB_filter T, List.filter_cons, List.filter_cons, srtB_filter T l]
theorem purs_mem : ∀ {ds : List D}, D.purs ds = true → ∀ d ∈ ds, D.pur d = true
  | [], _, d, hd => by cases hd
  | x :: xs, h, d, hd => by
    simp only [D.purs, Bool.and_eq_true] at h
    rcases List.mem_cons.mp hd with e | hd
    · rw [e]; exact h.1
    · exact purs_mem h.2 d hd
mutual
theorem reads_pur {h : Heap} : ∀ {d : D} {v : Value} {as : List Addr}, D.pur d = true → Reads h v (toP d) as → as = []
  | .int i, v, as, _, r => by unfold toP at r; cases r; rfl
  | .tup ds, v, as, p, r => by
    unfold toP at r
    cases r with
    | tuple _ _ _ q => exact readsAll_pur (ds := ds) (by simpa [D.pur] using p) q
  | .non, _, _, p, _ => by simp [D.pur] at p
  | .bl _, _, _, p, _ => by simp [D.pur] at p
  | .str _, _, _, p, _ => by simp [D.pur] at p
  | .lst _, _, _, p, _ => by simp [D.pur] at p
  | .fz _, _, _, p, _ => by simp [D.pur] at p
  | .emp, _, _, p, _ => by simp [D.pur] at p
  | .dic _, _, _, p, _ => by simp [D.pur] at p
theorem readsAll_pur {h : Heap} : ∀ {ds : List D} {vs : List Value} {as : List Addr}, D.purs ds = true → ReadsAll h vs (toPs ds) as → as = []
  | [], vs, as, _, r => by unfold toPs at r; cases r; rfl
  | d :: ds, vs, as, p, r => by
    unfold toPs at r
    simp only [D.purs, Bool.and_eq_true] at p
    cases r with
    | cons r1 r2 => rw [reads_pur p.1 r1, readsAll_pur p.2 r2]; rfl
end
theorem sort_is {ds : List D} (h : D.purs ds = true) : ds.mergeSort (dataLe false toP) = srtB leD ds := by
  have T : TotalLe (dataLe false toP) := sortLe_total _ _ _
  rw [← sort_unique T (srtB_pw T ds) (fun c => srtB_filter T ds)]
  exact srtB_congr fun a ha b hb => leD_toP (purs_mem h a ha) (purs_mem h b hb)
theorem srtOk_i {ds : List D} (h : srtOk ds = true) : D.shs 60 ds = true ∧ D.purs ds = true ∧ AllAlike (ds.map toP) ∧ Sortable (ds.map toP) := by
  unfold srtOk at h
  rw [Bool.and_eq_true, Bool.and_eq_true, Bool.and_eq_true, Bool.or_eq_true] at h
  obtain ⟨h1, h2, h3, h4⟩ := h
  refine ⟨h1, h2, ?_, ?_⟩
  · intro x hx y hy
    obtain ⟨a, ha, rfl⟩ := List.mem_map.mp hx
    obtain ⟨b, hb, rfl⟩ := List.mem_map.mp hy
    rcases alk_toP a b (purs_mem h2 a ha) with q | q
    · exact q
    · have := List.all_eq_true.mp (List.all_eq_true.mp h3 a ha) b hb
      rw [q] at this
      cases this
  · rcases h4 with h4 | h4
    · refine .inl fun x hx => ?_
      obtain ⟨a, ha, rfl⟩ := List.mem_map.mp hx
      have := List.all_eq_true.mp h4 a ha
      match a, this with
      | .tup (x :: r), _ => exact ⟨toP x, toPs r, by simp [toP, toPs]⟩
    · refine .inr fun x hx => ?_
      obtain ⟨a, ha, rfl⟩ := List.mem_map.mp hx
      have := List.all_eq_true.mp h4 a ha
      match a, this with
      | .int i, _ => exact ⟨by simp [toP], fun xs => by simp [toP]⟩
end
theorem Rps.each : ∀ {ds : List D} {vs : List V} {us : List Value}, Rps K O H ds vs → Vals vs us → PySem.W.EachIs (fun u d => ∃ v, Rp K O H d v ∧ RelV v u) us ds
  | [], vs, us, h, r => by
    rw [h.unnil] at r
    cases r
    exact .nil
  | d :: ds, vs, us, h, r => by
    obtain ⟨v, w, e, h1, h2⟩ := Rps.uncons h
    rw [e] at r
    cases r with
    | cons r1 r2 => exact .cons ⟨v, h1, r1⟩ (Rps.each h2 r2)
theorem each_rps : ∀ {us : List Value} {ds : List D}, PySem.W.EachIs (fun u d => ∃ v, Rp K O H d v ∧ RelV v u) us ds → ∃ vs, Rps K O H ds vs ∧ Vals vs us
  | _, _, .nil => ⟨[], Rps.nil, .nil⟩
  | _, _, .cons ⟨v, h1, r1⟩ t => by
    obtain ⟨vs, h2, r2⟩ := each_rps t
    exact ⟨v :: vs, Rps.cons h1 h2, .cons r1 r2⟩
theorem shs_mem : ∀ {ds : List D} {n : Nat}, D.shs (n + 1) ds = true → ∀ d ∈ ds, D.sh n d = true
  | [], n, _, d, hd => by cases hd
  | x :: xs, n, h, d, hd => by
    simp only [D.shs, Bool.and_eq_true] at h
    rcases List.mem_cons.mp hd with e | hd
    · rw [e]; exact h.1
    · exact shs_mem h.2 d hd
theorem each_with {α β : Type} {R S : α → β → Prop} : ∀ {as : List α} {bs : List β}, PySem.W.EachIs R as bs → (∀ a b, b ∈ bs → R a b → S a b) → PySem.W.EachIs S as bs
  | _, _, .nil, _ => .nil
  | _, _, .cons h t, k => .cons (k _ _ List.mem_cons_self h) (each_with t fun a b hb => k a b (List.mem_cons_of_mem _ hb))
theorem sorted_ok (hu : X.A.units + 65 < cLine) : CallR X (.builtin "sorted") (rPrim X.K .sorted) := by
  intro pins s σ H xs us Q I rv h
  obtain ⟨O, ds, d, hO, r, hp, q⟩ := h
  obtain ⟨x, rfl⟩ := prim_one hp
  obtain ⟨v, rfl, hx⟩ := r.one
  cases x with
  | lst as =>
    simp only [prim, sortD] at hp
    split at hp
    · rename_i hs
      cases hp
      obtain ⟨hs1, hs2⟩ := hs
      obtain ⟨k1, k2, k3, k4⟩ := srtOk_i hs1
      obtain ⟨a, vs, e, _, s1, r1⟩ := hx.unlst
      subst e
      obtain ⟨its, ri, pl, hz⟩ := I.list (.inl (.inl s1))
      rw [Vals.ref1 rv]
      have ei := Rps.each r1 ri
      refine PySem.W.sorted_data (enc := toP) (bs := as) (vs := its) pl.isList ei ?_ k3 k4 (Nat.le_trans hs2 lim_line) (fun b hb => ?_) fun out ho eo => ?_
      · exact each_with ei fun u d hd ⟨v, h1, h2⟩ => Dp.reads I (toP d) v u (h1.dp (shs_mem k1 d hd)) h2
      · have := (sh_lay (shs_mem k1 b hb)).2
        omega
      · rw [sort_is k2] at eo
        obtain ⟨vs2, g1, g2⟩ := each_rps eo
        obtain ⟨n, hn⟩ := sortedAll_at s.heap its out.toArray
        have hp : H (s.heap.objs.size + 1) = none := I.hok.fresh (Nat.le_succ _)
        refine ⟨.ref (s.heap.objs.size + 1), upd H (s.heap.objs.size + 1) (.lst vs2), I.laid (t' := s.toks) (fun b o hb => sortedAll_old hb) (Nat.le_succ _) ⟨?_, out, n, g2, hn⟩, rfl, q.newL hO g1 hp⟩
        rw [g2.length, ho]
        exact Nat.le_trans hs2 lim_line
    · split at hp
      · rename_i l1
        cases hp
        obtain ⟨a, vs, e, _, s1, r1⟩ := hx.unlst
        subst e
        obtain ⟨its, ri, pl, hz⟩ := I.list (.inl (.inl s1))
        rw [Vals.ref1 rv]
        have ln : its.length = 1 := by rw [← (Rps.each r1 ri).length.symm, l1]
        refine Srt.sorted_any pl.isList (by rw [ln, sizeLine_eq]; decide) (fun h => absurd h (by omega)) fun out ho => ?_
        have eo : out = its := List.Perm.eq_of_pairwise (le := fun _ _ => True) (fun x y hx hy _ _ => by
          obtain ⟨z, rfl⟩ := List.length_eq_one_iff.mp ln
          rw [List.mem_singleton.mp (ho.mem_iff.mp hx), List.mem_singleton.mp hy]) (List.pairwise_of_forall fun _ _ => trivial) (List.pairwise_of_forall fun _ _ => trivial) ho
        subst eo
        obtain ⟨n, hn⟩ := sortedAll_at s.heap out out.toArray
        have hp : H (s.heap.objs.size + 1) = none := I.hok.fresh (Nat.le_succ _)
        exact ⟨.ref (s.heap.objs.size + 1), upd H (s.heap.objs.size + 1) (.lst vs), I.laid (t' := s.toks) (fun b o hb => sortedAll_old hb) (Nat.le_succ _) ⟨hz, out, n, ri, hn⟩, rfl, q.newL hO r1 hp⟩
      · cases hp
  | tup as =>
    simp only [prim] at hp
    cases z : intsOf as with
    | none =>
      rw [z] at hp
      replace hp : sortK as = some d := hp
      unfold sortK at hp
      split at hp
      case isFalse => cases hp
      case isTrue hs =>
      cases hp
      obtain ⟨hs1, hs2⟩ := hs
      obtain ⟨k1, k2, k3, k4⟩ := srtOk_i hs1
      obtain ⟨a, vs, e, s1, r1⟩ := hx.untup
      subst e
      obtain ⟨its, ri, ⟨o, ho, hc, n, hd⟩, hz⟩ := I.tuple s1
      rw [Vals.ref1 rv]
      have ei := Rps.each r1 ri
      have hl : its.length = as.length := ei.length
      have hline : lim ≤ sizeLine := lim_line
      refine Calls.call_function_entry PyProof.Rows.kind_sorted PyProof.Rows.plain_sorted PyProof.Rows.entry_sorted (PyProof.Rows.args_sorted1 _) ?_
      unfold Builtin.«sorted»
      refine wpAny_bind (m := checkCount "sorted" 1 1 _) (wpAny_pure ?_)
      refine wpAny_bind (wpAny_collect_seq (A := X.A.in1) a (.inr rfl) ho hc hd (fun h' hk => ?_) (by rw [List.size_toArray]; omega))
      have et : its.toArray.toList = its := by simp
      rw [et]
      have I1 : Inv X pins σ H { s with heap := h' } := I.kept (t' := s.toks) hk
      refine wpAny_bind (wpAny_newList ?_ (by omega))
      have hoL : (h'.push (seqObj "list" its.toArray 0)).get? h'.objs.size = some (seqObj "list" its.toArray 0) := Heap.get?_push_size _ rfl
      show wpAny _ _ _ _ _ { s with heap := h'.push (seqObj "list" its.toArray 0) }
      have up : ∀ b u, s.heap.get? b = some u → (h'.push (seqObj "list" its.toArray 0)).get? b = some u := fun b u q => Heap.get?_push_of_some _ (hk b u q)
      refine wpAny_bind (wpAny_holding (PySem.W.list_sort_data (A := X.A.in1) (enc := toP) (bs := as) (vs := its) (s := { s with heap := h'.push (seqObj "list" its.toArray 0) }) hoL ei
        (each_with ei fun u d hd ⟨v, h1, h2⟩ => ?_) k3 k4 (Nat.le_trans hs2 lim_line) (fun b hb => ?_) fun out hl2 eo => ?_))
      · obtain ⟨as', q'⟩ := Dp.reads I (toP d) v u (h1.dp (shs_mem k1 d hd)) h2
        have : as' = [] := reads_pur (purs_mem k2 d hd) q'
        subst this
        exact ⟨[], PyProof.Rows.Reads.keeps (fun _ _ => up _ _) q', List.not_mem_nil⟩
      · have := (sh_lay (shs_mem k1 b hb)).2
        rw [Around.in1_units]
        omega
      · rw [sort_is k2] at eo
        obtain ⟨vs2, g1, g2⟩ := each_rps eo
        obtain ⟨c, hcc⟩ := PyProof.Rows.sortedHeap_at (vs := its) (out := out.toArray) hoL
        have hp : H h'.objs.size = none := I1.hok.fresh (Nat.le_refl _)
        have hlen : vs2.length ≤ sizeLine := by
          rw [g2.length, hl2]
          omega
        refine wpAny_pure ⟨_, rfl, .ref h'.objs.size, upd H h'.objs.size (.lst vs2), I1.laid (t' := s.toks) (fun b u e => ?_) (Nat.le_refl _)
          (show ObjOk X.prog X.w _ _ _ (.lst vs2) from ⟨hlen, out, c, g2, hcc⟩), rfl, q.newL hO g1 hp⟩
        have hb : b < h'.objs.size := Heap.lt_size e
        rw [PyProof.Rows.sortedHeap_old (Nat.ne_of_lt hb) (by rw [size_push']; exact Nat.lt_succ_of_lt hb)]
        exact Heap.get?_push_of_some _ e
    | some ns =>
      rw [z] at hp
      simp only at hp
      split at hp
      · rename_i c
        cases hp
        obtain ⟨h64, hpw⟩ := c
        obtain ⟨a, vs, e, s1, r1⟩ := hx.untup
        subst e
        rw [intsOf_eq z] at r1 q
        rw [r1.ints_eq] at s1 r1
        obtain ⟨its, rv', ⟨o, ho, hc, n, hd⟩, hz⟩ := I.tuple s1
        rw [Vals.ref1 rv]
        have hl : its.length = ns.length := by rw [← rv'.length, List.length_map]
        have hi : IntsAre its ns := rv'.ints
        refine Calls.call_function_entry PyProof.Rows.kind_sorted PyProof.Rows.plain_sorted PyProof.Rows.entry_sorted (PyProof.Rows.args_sorted1 _) ?_
        unfold Builtin.«sorted»
        refine wpAny_bind (m := checkCount "sorted" 1 1 _) (wpAny_pure ?_)
        refine wpAny_bind (wpAny_collect_seq (A := X.A.in1) a (.inr rfl) ho hc hd (fun h' hk => ?_) (by rw [List.size_toArray, sizeLine_eq]; omega))
        have ei : its.toArray.toList = its := by simp
        rw [ei]
        have I1 : Inv X pins σ H { s with heap := h' } := I.kept (t' := s.toks) hk
        refine wpAny_bind (wpAny_newList ?_ (by rw [hl, sizeLine_eq]; omega))
        have hoL : (h'.push (seqObj "list" its.toArray 0)).get? h'.objs.size = some (seqObj "list" its.toArray 0) := Heap.get?_push_size _ rfl
        show wpAny _ _ _ _ _ { s with heap := h'.push (seqObj "list" its.toArray 0) }
        refine wpAny_bind (wpAny_holding (wpAny_call_entry PyProof.Rows.slot_list_sort ⟨_, hoL, rfl⟩ PyProof.Rows.entry_list_sort
          (PyProof.Rows.list_sort_tree (s := { s with heap := h'.push (seqObj "list" its.toArray 0) }) hoL hi (by rw [hl]; omega) fun out ys g1 g2 g3 => ⟨_, rfl, ?_⟩) (PyProof.Rows.args_list_sort _)))
        have ey : ys = ns := List.Perm.eq_of_pairwise (le := fun x y : Int => x ≤ y) (fun x y _ _ h1 h2 => Int.le_antisymm h1 h2) g3 hpw g2
        subst ey
        obtain ⟨e', he'⟩ := PyProof.Rows.sortedHeap_at (vs := its) (out := out) hoL
        have hlen : (ys.map V.int).length ≤ sizeLine := by
          rw [List.length_map, sizeLine_eq]
          omega
        have hp : H h'.objs.size = none := I1.hok.fresh (Nat.le_refl _)
        refine wpAny_pure ⟨_, rfl, .ref h'.objs.size, upd H h'.objs.size (.lst (ys.map V.int)), I1.laid (t' := s.toks) (fun b u e => ?_) (Nat.le_refl _)
          (show ObjOk X.prog X.w _ _ _ (.lst (ys.map V.int)) from ⟨hlen, out.toList, e', vals_of_ints g1, by rw [Array.toArray_toList]; exact he'⟩), rfl, q.newL hO r1 hp⟩
        have hb : b < h'.objs.size := Heap.lt_size e
        rw [PyProof.Rows.sortedHeap_old (Nat.ne_of_lt hb) (by rw [size_push']; exact Nat.lt_succ_of_lt hb)]
        exact Heap.get?_push_of_some _ e
      · cases hp
  | _ => cases hp
mutual
theorem toP_inj : ∀ (d e : D), D.pur d = true → D.pur e = true → toP d = toP e → d = e
  | .int i, .int j, _, _, h => by simpa [toP] using h
  | .tup xs, .tup ys, h1, h2, h => by
    simp only [D.pur] at h1 h2
    simp only [toP, PyData.tuple.injEq] at h
    rw [toPs_inj xs ys h1 h2 h]
  | .int i, .tup ys, _, _, h => by simp [toP] at h
  | .tup ys, .int i, _, _, h => by simp [toP] at h
  | .non, _, h, _, _ => by simp [D.pur] at h
  | .bl _, _, h, _, _ => by simp [D.pur] at h
  | .str _, _, h, _, _ => by simp [D.pur] at h
  | .lst _, _, h, _, _ => by simp [D.pur] at h
  | .fz _, _, h, _, _ => by simp [D.pur] at h
  | .emp, _, h, _, _ => by simp [D.pur] at h
  | .dic _, _, h, _, _ => by simp [D.pur] at h
  | .int _, .non, _, h, _ => by simp [D.pur] at h
  | .int _, .bl _, _, h, _ => by simp [D.pur] at h
  | .int _, .str _, _, h, _ => by simp [D.pur] at h
  | .int _, .lst _, _, h, _ => by simp [D.pur] at h
  | .int _, .fz _, _, h, _ => by simp [D.pur] at h
  | .int _, .emp, _, h, _ => by simp [D.pur] at h
  | .int _, .dic _, _, h, _ => by simp [D.pur] at h
  | .tup _, .non, _, h, _ => by simp [D.pur] at h
  | .tup _, .bl _, _, h, _ => by simp [D.pur] at h
  | .tup _, .str _, _, h, _ => by simp [D.pur] at h
  | .tup _, .lst _, _, h, _ => by simp [D.pur] at h
  | .tup _, .fz _, _, h, _ => by simp [D.pur] at h
  | .tup _, .emp, _, h, _ => by simp [D.pur] at h
  | .tup _, .dic _, _, h, _ => by simp [D.pur] at h
theorem toPs_inj : ∀ (ds es : List D), D.purs ds = true → D.purs es = true → toPs ds = toPs es → ds = es
  | [], [], _, _, _ => rfl
  | d :: ds, e :: es, h1, h2, h => by
    simp only [D.purs, Bool.and_eq_true] at h1 h2
    simp only [toPs, List.cons.injEq] at h
    rw [toP_inj d e h1.1 h2.1 h.1, toPs_inj ds es h1.2 h2.2 h.2]
  | [], _ :: _, _, _, h => by simp [toPs] at h
  | _ :: _, [], _, _, h => by simp [toPs] at h
end
theorem toPs_map : ∀ (ds : List D), toPs ds = ds.map toP
  | [] => rfl
  | d :: ds => by rw [toPs, toPs_map ds]; rfl
theorem leastD_mem : ∀ (ds : List D) (m : D), leastD ds m ∈ m :: ds
  | [], m => by simp [leastD]
  | d :: ds, m => by
    unfold leastD
    split
    · rcases List.mem_cons.mp (leastD_mem ds m) with e | e
      · rw [e]; exact List.mem_cons_self
      · exact List.mem_cons_of_mem _ (List.mem_cons_of_mem _ e)
    · exact List.mem_cons_of_mem _ (leastD_mem ds d)
theorem minD_least : ∀ (ds : List D) (m : D), D.pur m = true → D.purs ds = true → PySem.W.minD (toP m) (toPs ds) = toP (leastD ds m)
  | [], m, _, _ => rfl
  | d :: ds, m, hm, hd => by
    simp only [D.purs, Bool.and_eq_true] at hd
    have e : PySem.W.dataLt (toP d) (toP m) = !leD m d := by
      have := leD_toP hm hd.1
      have e2 : PySem.W.dataLe false toP m d = !PySem.W.dataLt (toP d) (toP m) := rfl
      rw [e2] at this
      rw [← this, Bool.not_not]
    unfold PySem.W.minD leastD toPs
    rw [List.foldl_cons, e]
    cases h : leD m d with
    | true => exact minD_least ds m hm hd.2
    | false => exact minD_least ds d hd.1 hd.2
theorem each_get {α β : Type} {R : α → β → Prop} : ∀ {as : List α} {bs : List β} {i : Nat} {a : α}, PySem.W.EachIs R as bs → as[i]? = some a → ∃ b, bs[i]? = some b ∧ R a b
  | _, _, i, a, .nil, h => by simp at h
  | _, _, 0, a, .cons h t, q => by
    simp at q
    subst q
    exact ⟨_, rfl, h⟩
  | _, _, i + 1, a, .cons h t, q => by
    obtain ⟨b, e, r⟩ := each_get (i := i) t (by simpa using q)
    exact ⟨b, by simpa using e, r⟩
theorem minK_ok (hc : X.calm = true) (hu : X.A.units + 65 < cLine) {pins : List (Addr × Obj)} {s : Shared} {σ : L2.St} {H : Hp} {as : List D} {v : V} {us : List Value} {d : D} {Q : VK} (I : Inv X pins σ H s) (rv : Vals [v] us) (hx : Rp X.K O H (.lst as) v) (hp : minK as = some d) (q : VOk X.K O H d Q) :
    wpAny (model X.prog X.w) X.A (call (.builtin "min") us) (EP X pins σ Q) X.xe s := by
  cases as with
  | nil => cases hp
  | cons d0 r =>
    simp only [minK] at hp
    split at hp
    case isFalse => cases hp
    rename_i hs
    cases hp
    obtain ⟨k1, k2, k3, k4⟩ := srtOk_i hs.1
    obtain ⟨a, vs, e, _, s1, r1⟩ := hx.unlst
    subst e
    obtain ⟨its, ri, pl, hz⟩ := I.list (.inl (.inl s1))
    rw [Vals.ref1 rv]
    obtain ⟨as, hr⟩ := Dp.readsAll I _ _ _ (r1.dp k1) ri
    have kp : D.pur d0 = true ∧ D.purs r = true := by simpa only [D.purs, Bool.and_eq_true] using k2
    have hl := (shs_lay k1).2
    refine PySem.W.min_list_data (x := toP d0) (xs := toPs r) (I.ok.hd hc) pl.isList (by simpa [toPs] using hr) ⟨fun x hx y hy => ?_, fun x hx z => ?_⟩ ?_ fun i v h' tk bs hv rd hk => ?_
    · exact k3 x (by rw [← toPs_map]; exact hx) y (by rw [← toPs_map]; exact hy)
    · have hx : x ∈ (d0 :: r).map toP := by rw [← toPs_map]; exact hx
      obtain ⟨y, hy, rfl⟩ := List.mem_map.mp hx
      have := purs_mem k2 y hy
      cases y <;> simp [toP, D.pur] at z this
    · have : PyData.depthAll (toP d0 :: toPs r) ≤ 60 := by simpa [toPs] using hl
      omega
    · have hv : its[i]? = some v := by simpa using hv
      obtain ⟨dd, hd, vv, w1, w2⟩ := each_get (Rps.each r1 ri) hv
      have hm : dd ∈ d0 :: r := List.mem_of_getElem? hd
      have hp := purs_mem k2 dd hm
      obtain ⟨as', rr⟩ := Dp.reads I (toP dd) vv v (w1.dp (shs_mem k1 dd hm)) w2
      have rr' := PyProof.Rows.Reads.keeps hk rr
      have hlay := (sh_lay (shs_mem k1 dd hm)).1
      have e := PySem.SeqAt.Reads.unique _ _ _ _ _ hlay rr' rd
      rw [minD_least r d0 kp.1 kp.2] at e
      have e := toP_inj _ _ hp (purs_mem k2 _ (leastD_mem r d0)) e
      rw [e] at w1
      exact ⟨vv, H, I.kept (t' := tk) hk, w2, q.same w1⟩
theorem min_ok (hc : X.calm = true) (hu : X.A.units + 65 < cLine) : CallR X (.builtin "min") (rPrim X.K .min1) := by
  intro pins s σ H xs us Q I rv h
  obtain ⟨O, ds, d, hO, r, hp, q⟩ := h
  obtain ⟨x, rfl⟩ := prim_one hp
  obtain ⟨v, rfl, hx⟩ := r.one
  cases x with
  | lst as =>
    simp only [prim] at hp
    split at hp
    · rename_i i is z
      cases hp
      obtain ⟨a, vs, e, _, s1, r1⟩ := hx.unlst
      rw [intsOf_eq z] at r1
      rw [r1.ints_eq] at s1
      refine cr_min hc pins s σ H _ us Q I rv ⟨a, i :: is, by rw [e], .inl (.inl s1), Nat.succ_pos _, fun m h1 h2 => ?_⟩
      obtain ⟨k1, k2⟩ := leastOf_ok is i
      have e : m = leastOf is i := Int.le_antisymm (h2 _ k1) (k2 _ h1)
      rw [e]
      exact q.same (.int _)
    · cases hp
    · rename_i z
      exact minK_ok hc hu I rv hx hp q
  | _ => cases hp
def rPrim2 (K : PySem.W.Frag) (p : Prim2) : List V → Hp → VK → Prop := fun xs H Q => ∃ O d1 d2 d v1 v2, xs = [v1, v2] ∧ Rp K O H d1 v1 ∧ Rp K O H d2 v2 ∧ prim2 p d1 d2 = some d ∧ VOk K O H d Q
theorem prim2_i {p : Prim2} {d1 d2 d : D} (h : prim2 p d1 d2 = some d) : ∃ i j, d1 = .int i ∧ d2 = .int j := by
  cases d1 with
  | int i => cases d2 with
    | int j => exact ⟨i, j, rfl, rfl⟩
    | _ => cases p <;> cases h
  | _ => cases p <;> cases h
theorem min2_ok (hc : X.calm = true) : CallR X (.builtin "min") (rPrim2 X.K .min2) := by
  intro pins s σ H xs us Q I rv h
  obtain ⟨O, d1, d2, d, v1, v2, rfl, h1, h2, hp, q⟩ := h
  obtain ⟨i, j, rfl, rfl⟩ := prim2_i hp
  cases hp
  exact call_min2 hc pins s σ H _ us Q I rv ⟨i, j, by rw [h1.unint, h2.unint], q.same (.int _)⟩
theorem max2_ok (hc : X.calm = true) : CallR X (.builtin "max") (rPrim2 X.K .max2) := by
  intro pins s σ H xs us Q I rv h
  obtain ⟨O, d1, d2, d, v1, v2, rfl, h1, h2, hp, q⟩ := h
  obtain ⟨i, j, rfl, rfl⟩ := prim2_i hp
  cases hp
  exact call_max2 hc pins s σ H _ us Q I rv ⟨i, j, by rw [h1.unint, h2.unint], q.same (.int _)⟩
/-! ### isinstance -/
def D.tyN : D → String
  | .non => "NoneType"
  | .bl _ => "bool"
  | .int _ => "int"
  | .str _ => "str"
  | .tup _ => "tuple"
  | .emp => "dict"
  | _ => "list"
/-- of a known type -/
def tyd : D → Bool
  | .fz _ => false
  | .dic _ => false
  | _ => true
theorem Rp.ty {d : D} {v : V} (h : Rp K O H d v) (n : tyd d = true) : TyX K H v (.type d.tyN) := by
  cases d with
  | non => rw [h.unnon]; exact .base .non
  | bl b => rw [h.unbl]; exact .base (.bl b)
  | int i => rw [h.unint]; exact .base (.int i)
  | str x => rw [h.unstr]; exact .base (.str x)
  | tup ds =>
    obtain ⟨a, vs, e, s, r⟩ := h.untup
    rw [e]
    rcases s with (s | ⟨o, s⟩) | ⟨o, its, n, s, c, _⟩
    · exact .base (.tup s)
    · exact .fTuple s
    · exact .kTuple s c
  | lst ds =>
    obtain ⟨a, vs, e, _, s, r⟩ := h.unlst
    rw [e]
    exact .base (.lst s)
  | fz ds => cases n
  | dic _ => cases n
  | emp =>
    obtain ⟨a, e, s⟩ := h.unemp
    rw [e]
    exact .base (.dK s)
def clsN : Prim → String
  | .isInt => "int"
  | .isBool => "bool"
  | .isTup => "tuple"
  | .isLst => "list"
  | .isStr => "str"
  | _ => "int"
theorem kit_NoneType_int : kitB "NoneType" "int" = some false := by decide +kernel
theorem kit_bool_int : kitB "bool" "int" = some true := by decide +kernel
theorem kit_int_int : kitB "int" "int" = some true := by decide +kernel
theorem kit_str_int : kitB "str" "int" = some false := by decide +kernel
theorem kit_tuple_int : kitB "tuple" "int" = some false := by decide +kernel
theorem kit_list_int : kitB "list" "int" = some false := by decide +kernel
theorem kit_NoneType_bool : kitB "NoneType" "bool" = some false := by decide +kernel
theorem kit_bool_bool : kitB "bool" "bool" = some true := by decide +kernel
theorem kit_int_bool : kitB "int" "bool" = some false := by decide +kernel
theorem kit_str_bool : kitB "str" "bool" = some false := by decide +kernel
theorem kit_tuple_bool : kitB "tuple" "bool" = some false := by decide +kernel
theorem kit_list_bool : kitB "list" "bool" = some false := by decide +kernel
theorem kit_NoneType_tuple : kitB "NoneType" "tuple" = some false := by decide +kernel
theorem kit_bool_tuple : kitB "bool" "tuple" = some false := by decide +kernel
theorem kit_int_tuple : kitB "int" "tuple" = some false := by decide +kernel
theorem kit_str_tuple : kitB "str" "tuple" = some false := by decide +kernel
theorem kit_tuple_tuple : kitB "tuple" "tuple" = some true := by decide +kernel
theorem kit_list_tuple : kitB "list" "tuple" = some false := by decide +kernel
theorem kit_NoneType_list : kitB "NoneType" "list" = some false := by decide +kernel
theorem kit_bool_list : kitB "bool" "list" = some false := by decide +kernel
theorem kit_int_list : kitB "int" "list" = some false := by decide +kernel
theorem kit_str_list : kitB "str" "list" = some false := by decide +kernel
theorem kit_tuple_list : kitB "tuple" "list" = some false := by decide +kernel
theorem kit_list_list : kitB "list" "list" = some true := by decide +kernel
theorem kit_NoneType_str : kitB "NoneType" "str" = some false := by decide +kernel
theorem kit_bool_str : kitB "bool" "str" = some false := by decide +kernel
theorem kit_int_str : kitB "int" "str" = some false := by decide +kernel
theorem kit_str_str : kitB "str" "str" = some true := by decide +kernel
theorem kit_tuple_str : kitB "tuple" "str" = some false := by decide +kernel
theorem kit_list_str : kitB "list" "str" = some false := by decide +kernel
theorem kit_dict_int : kitB "dict" "int" = some false := by decide +kernel
theorem kit_dict_bool : kitB "dict" "bool" = some false := by decide +kernel
theorem kit_dict_tuple : kitB "dict" "tuple" = some false := by decide +kernel
theorem kit_dict_list : kitB "dict" "list" = some false := by decide +kernel
theorem kit_dict_str : kitB "dict" "str" = some false := by decide +kernel
theorem kit_int (x : D) : kitB x.tyN "int" = some (match x with | .int _ => true | .bl _ => true | _ => false) := by
  cases x with
  | non => exact kit_NoneType_int
  | bl _ => exact kit_bool_int
  | int _ => exact kit_int_int
  | str _ => exact kit_str_int
  | tup _ => exact kit_tuple_int
  | lst _ => exact kit_list_int
  | fz _ => exact kit_list_int
  | emp => exact kit_dict_int
  | dic _ => exact kit_list_int
theorem kit_bool (x : D) : kitB x.tyN "bool" = some (match x with | .bl _ => true | _ => false) := by
  cases x with
  | non => exact kit_NoneType_bool
  | bl _ => exact kit_bool_bool
  | int _ => exact kit_int_bool
  | str _ => exact kit_str_bool
  | tup _ => exact kit_tuple_bool
  | lst _ => exact kit_list_bool
  | fz _ => exact kit_list_bool
  | emp => exact kit_dict_bool
  | dic _ => exact kit_list_bool
theorem kit_tuple (x : D) : kitB x.tyN "tuple" = some (match x with | .tup _ => true | _ => false) := by
  cases x with
  | non => exact kit_NoneType_tuple
  | bl _ => exact kit_bool_tuple
  | int _ => exact kit_int_tuple
  | str _ => exact kit_str_tuple
  | tup _ => exact kit_tuple_tuple
  | lst _ => exact kit_list_tuple
  | fz _ => exact kit_list_tuple
  | emp => exact kit_dict_tuple
  | dic _ => exact kit_list_tuple
theorem kit_list (x : D) : kitB x.tyN "list" = some (match x with | .lst _ => true | .fz _ => true | .dic _ => true | _ => false) := by
  cases x with
  | non => exact kit_NoneType_list
  | bl _ => exact kit_bool_list
  | int _ => exact kit_int_list
  | str _ => exact kit_str_list
  | tup _ => exact kit_tuple_list
  | lst _ => exact kit_list_list
  | fz _ => exact kit_list_list
  | emp => exact kit_dict_list
  | dic _ => exact kit_list_list
theorem kit_str (x : D) : kitB x.tyN "str" = some (match x with | .str _ => true | _ => false) := by
  cases x with
  | non => exact kit_NoneType_str
  | bl _ => exact kit_bool_str
  | int _ => exact kit_int_str
  | str _ => exact kit_str_str
  | tup _ => exact kit_tuple_str
  | lst _ => exact kit_list_str
  | fz _ => exact kit_list_str
  | emp => exact kit_dict_str
  | dic _ => exact kit_list_str
theorem isi_ok {p : Prim} {x : D} {d : D} {v : V} {Q : VK} (hp : p = .isInt ∨ p = .isBool ∨ p = .isTup ∨ p = .isLst ∨ p = .isStr) (h : Rp K O H x v) (e : prim p [x] = some d) (q : VOk K O H d Q) : rIsi K [v, .ty (clsN p)] H Q := by
  have go : ∀ b : Bool, tyd x = true → kitB x.tyN (clsN p) = some b → d = .bl b → rIsi K [v, .ty (clsN p)] H Q := fun b n k z => by
    subst z
    exact ⟨v, .ty (clsN p), .type x.tyN, .type (clsN p), b, rfl, .ty _, h.ty n, kit_ty k, q.same (.bl b)⟩
  rcases hp with rfl | rfl | rfl | rfl | rfl
  · cases x <;> first
      | (cases e; done)
      | (cases e; exact go _ rfl (kit_int _) rfl)
  · cases x <;> first
      | (cases e; done)
      | (cases e; exact go _ rfl (kit_bool _) rfl)
  · cases x <;> first
      | (cases e; done)
      | (cases e; exact go _ rfl (kit_tuple _) rfl)
  · cases x <;> first
      | (cases e; done)
      | (cases e; exact go _ rfl (kit_list _) rfl)
  · cases x <;> first
      | (cases e; done)
      | (cases e; exact go _ rfl (kit_str _) rfl)
theorem isiT_ok {x : D} {d : D} {v : V} {Q : VK} {tp : Addr} (h : Rp K O H x v) (ht : H tp = some (.tup [.ty "tuple", .ty "list"])) (e : prim .isSeq [x] = some d) (q : VOk K O H d Q) : rIsiT K [v, .ref tp] H Q := by
  have go : ∀ b c : Bool, tyd x = true → kitB x.tyN "tuple" = some b → kitB x.tyN "list" = some c → d = .bl (b || c) → rIsiT K [v, .ref tp] H Q := fun b c n k1 k2 z => by
    subst z
    refine ⟨v, tp, _, .type x.tyN, [.type "tuple", .type "list"], b || c, rfl, ht, .cons (.ty _) (.cons (.ty _) .nil), h.ty n, ?_, q.same (.bl _)⟩
    refine kitAny_cons (kit_ty k1) (fun z => ?_) (fun z => by rw [z]; rfl)
    subst z
    refine kitAny_cons (kit_ty k2) (fun z => ?_) (fun z => by rw [z]; rfl)
    subst z
    rfl
  cases x <;> first
    | (cases e; done)
    | (cases e; exact go _ _ rfl (kit_tuple _) (kit_list _) rfl)
end
/-- a row of values walked; what stands at an address meanwhile -/
def DDh (H : Hp) (dd : Option (Addr × HO)) : Prop := ∀ p, dd = some p → H p.1 = some p.2
def ItV (dd : Option (Addr × HO)) (vs : List V) : It := ⟨fun i H => i < vs.length ∧ DDh H dd, fun i H x H' => H' = H ∧ vs[i]? = some x, fun i H => vs.length ≤ i ∧ DDh H dd⟩
end Ev
set_option Elab.async false
set_option linter.all false
set_option maxRecDepth 100000
set_option maxHeartbeats 4000000
set_option autoImplicit false
/-! Ev4z: zip of a list and a tuple. -/
namespace Ev
open PySem PySem.Spec PyProof.Rows L2
/-- a list and a tuple, turn by turn -/
def ItzM (K : PySem.W.Frag) (a b : Addr) : It :=
  ⟨fun i H => ∃ (xs ys : List V) (x y : V), SqL K H a xs ∧ SqT K H b ys ∧ xs[i]? = some x ∧ ys[i]? = some y,
    fun i H v H' => ∃ T x y, v = .ref T ∧ H T = none ∧ H' = upd H T (.tup [x, y]) ∧ (∀ xs, SqL K H a xs → xs[i]? = some x) ∧ ∀ ys, SqT K H b ys → ys[i]? = some y,
    fun i H => ∃ xs ys : List V, SqL K H a xs ∧ SqT K H b ys ∧ i ≤ xs.length ∧ i ≤ ys.length ∧ (i = xs.length ∨ i = ys.length)⟩
/-- the cells of a zip, and where they stand -/
structure ZmAt (z TI TO i1 i2 a b : Addr) : Prop where
  sep : ZipSep2 z TI TO i1 i2 [i1, a] [i2, b]
  n1 : a ≠ i1
  n2 : b ≠ i2
theorem turn_zipM {P : Program} {w : World} {K : PySem.W.Frag} {elts : List PySem.Expr} {kk : Nat} {tpos : Pos} {a b z TI TO i1 i2 : Addr} (D : ZmAt z TI TO i1 i2 a b) :
    Turn P w K (.Tuple elts kk tpos) (ItzM K a b) [z, TI, TO, i1, i2] z (fun i h => IsZip h z TI TO .none ∧ IsTupOf2 h TI (.ref i1) (.ref i2) ∧ (∃ x y, IsTupOf2 h TO x y) ∧ h.IsListIter i1 a i ∧ h.IsTupleIter i2 b i) where
  mem := by simp
  obj := fun i h st c hc => by
    obtain ⟨hz, hTI, ⟨x, y, hTO⟩, ⟨o1, e1, _, d1⟩, ⟨o2, e2, _, d2⟩⟩ := st
    have e' : c = z ∨ c = TI ∨ c = TO ∨ c = i1 ∨ c = i2 := by simpa using hc
    rcases e' with rfl | rfl | rfl | rfl | rfl
    · exact ⟨_, hz, fun v q => nomatch q⟩
    · exact ⟨_, hTI, fun v q => nomatch q⟩
    · exact ⟨_, hTO, fun v q => nomatch q⟩
    · exact ⟨o1, e1, fun v q => by rw [d1] at q; cases q⟩
    · exact ⟨o2, e2, fun v q => by rw [d2] at q; cases q⟩
  keep := fun i h h' st k => by
    obtain ⟨hz, hTI, ⟨x, y, hTO⟩, h1, h2⟩ := st
    exact ⟨k z (by simp) _ hz, k TI (by simp) _ hTI, ⟨x, y, k TO (by simp) _ hTO⟩, h1.at fun o q => k i1 (by simp) o q, h2.at fun o q => k i2 (by simp) o q⟩
  item := by
    intro X hP hw hK hc i pins s σ H E I hf st hg
    subst hP hw hK
    obtain ⟨hz, hTI, ⟨x0, y0, hTO⟩, h1, h2⟩ := st
    obtain ⟨xs, ys, x, y, hqx, hqy, hx, hy⟩ := hg
    obtain ⟨its, rv, p, _⟩ := I.list hqx
    obtain ⟨its2, rv2, p2, _⟩ := I.tuple hqy
    obtain ⟨u, hu, ru⟩ := rv.get hx
    obtain ⟨u2, hu2, ru2⟩ := rv2.get hy
    have hzl : z < s.heap.objs.size := Heap.lt_size hz
    have p2 : s.heap.IsTuple b its2.toArray := p2
    have l1 : i < its.toArray.size := by
      have := (List.getElem?_eq_some_iff.mp hu).1
      simpa using this
    have l2 : i < its2.toArray.size := by
      have := (List.getElem?_eq_some_iff.mp hu2).1
      simpa using this
    have D1 := Draws.list (prog := X.prog) (w := X.w) (A := X.A.in1) (show X.A.in1.handled = none from I.ok.hd hc) i1 a D.n1 its.toArray
    have D2 := Draws.tuple (prog := X.prog) (w := X.w) (A := X.A.in1) (show X.A.in1.handled = none from I.ok.hd hc) i2 b D.n2 its2.toArray
    refine wpAny_pyNext_zipD2_item D.sep D1 D2 hz hTI hTO ⟨h1, p.isList⟩ ⟨h2, p2⟩ l1 l2 fun v1 v2 h' tk e1 e2 z' TO' s1' s2' hT hsz hk => ?_
    have e1 : its.toArray[i]? = some v1 := e1
    have e2 : its2.toArray[i]? = some v2 := e2
    have q1 : u = v1 := by
      rw [List.getElem?_toArray, hu] at e1
      exact Option.some.inj e1
    have q2 : u2 = v2 := by
      rw [List.getElem?_toArray, hu2] at e2
      exact Option.some.inj e2
    subst q1
    subst q2
    refine ⟨_, rfl, wpAny_letOwnedTupleGo_zip (s := { s with heap := h', toks := tk }) z' fun h'' z'' sb => ?_⟩
    have hT2 : h''.get? s.heap.objs.size = some { cls := .type "tuple", data := .seq #[u, u2] } := (sb.2 _ (Nat.ne_of_gt hzl)).trans hT
    have new : ObjOk X.prog X.w (upd H s.heap.objs.size (.tup [x, y])) h'' s.heap.objs.size (.tup [x, y]) :=
      ⟨by show 2 ≤ sizeLine; decide, [u, u2], .cons ru (.cons ru2 .nil), ⟨_, hT2, rfl, _, rfl⟩⟩
    have I1 : Inv X pins σ (upd H s.heap.objs.size (.tup [x, y])) { s with heap := h'', toks := tk } :=
      I.turnedNew (t' := tk) (ch := [z, TI, TO, i1, i2]) (fun c o hb q => (sb.2 c (fun q' => hb (by simp [q']))).trans (hk c o (fun q' => hb (by simp [q'])) (fun q' => hb (by simp [q'])) (fun q' => hb (by simp [q'])) (fun q' => hb (by simp [q'])) q)) hf (Nat.le_refl _) new
    refine ⟨.ref s.heap.objs.size, _, I1, rfl, ⟨_, x, y, rfl, I.hok.fresh (Nat.le_refl _), rfl, fun l hl => by rw [I.list_inj hl hqx]; exact hx, fun l hl => by rw [I.tuple_inj hl hqy]; exact hy⟩, ⟨z'', ?_, ⟨u, u2, ?_⟩, ?_, ?_⟩, fun c hcm => ?_⟩
    · exact (sb.2 _ D.sep.TIz).trans (hk _ _ D.sep.TIz D.sep.TITO D.sep.TIi1 D.sep.TIi2 hTI)
    · exact (sb.2 _ D.sep.TOz).trans TO'
    · exact s1'.1.at fun o q => (sb.2 _ D.sep.zi1.symm).trans q
    · exact s2'.1.at fun o q => (sb.2 _ D.sep.zi2.symm).trans q
    · have hlt : c < s.heap.objs.size := by
        have e' : c = z ∨ c = TI ∨ c = TO ∨ c = i1 ∨ c = i2 := by simpa using hcm
        rcases e' with q | q | q | q | q
        · rw [q]; exact hzl
        · rw [q]; exact Heap.lt_size hTI
        · rw [q]; exact Heap.lt_size hTO
        · rw [q]; obtain ⟨_, e1, _⟩ := h1; exact Heap.lt_size e1
        · rw [q]; obtain ⟨_, e2, _⟩ := h2; exact Heap.lt_size e2
      rw [upd_ne (Nat.ne_of_lt hlt)]
      exact (hf c hcm).1
  done := by
    intro X hP hw hK hc i pins s σ H E I hf st hg
    subst hP hw hK
    obtain ⟨hz, hTI, ⟨x0, y0, hTO⟩, h1, h2⟩ := st
    obtain ⟨xs, ys, hqx, hqy, le1, le2, hend⟩ := hg
    obtain ⟨its, rv, p, _⟩ := I.list hqx
    obtain ⟨its2, rv2, p2, _⟩ := I.tuple hqy
    have p2 : s.heap.IsTuple b its2.toArray := p2
    have l1 := rv.length
    have l2 := rv2.length
    have D1 := Draws.list (prog := X.prog) (w := X.w) (A := X.A.in1) (show X.A.in1.handled = none from I.ok.hd hc) i1 a D.n1 its.toArray
    have D2 := Draws.tuple (prog := X.prog) (w := X.w) (A := X.A.in1) (show X.A.in1.handled = none from I.ok.hd hc) i2 b D.n2 its2.toArray
    exact wpAny_pyNext_zipD2_end D.sep D1 D2 hz hTI hTO ⟨h1, p.isList⟩ ⟨h2, p2⟩ (by simp; omega) (by simp; omega) (by simp; omega) fun h' tk hk => ⟨rfl, I.turnedL (t' := tk) (ch := [z, TI, TO, i1, i2]) (fun c o hb q =>
      hk c o (fun q' => hb (by simp [q'])) (fun q' => hb (by simp [q'])) (fun q' => hb (by simp [q'])) (fun q' => hb (by simp [q'])) q) hf⟩
  self := fun A i s Q E st h => wpAny_pyIter_zip st.1 h
/-- zip of two lists, of two tuples, of a list and a tuple -/
def iZipB (K : PySem.W.Frag) (ta : TA) : TI := fun σ H R => ta σ H fun vs H1 => ∃ a b xs ys, vs = [.ref a, .ref b] ∧ ((SqL K H1 a xs ∧ SqL K H1 b ys ∧ R (Itz K a b) H1) ∨ (SqT K H1 a xs ∧ SqT K H1 b ys ∧ R (RZ.ItzT K a b) H1) ∨ (SqL K H1 a xs ∧ SqT K H1 b ys ∧ R (ItzM K a b) H1))
theorem pi_zipB {X : Cx} {e e2 : PySem.Expr} {ta : TA} {p pos tpos : Pos} {elts : List PySem.Expr} {kk : Nat} (hg : Gl X "zip") (hm : X.mg "zip" = none) (ha : PA X [e, e2] ta)
    (hs : starEach [e, e2] X.env = (false, eval e X.env) :: starEach [e2] X.env := by rfl) (hpl : (backTo pos (starEach [e2] X.env)).any (·.1) = false := by rfl) :
    PI X (.Tuple elts kk tpos) (.Call (.Name "zip" p) [e, e2] [] pos) (iZipB X.K ta) := by
  refine ⟨fun pins s σ H R I h => ?_⟩
  refine Call_ (ld_blt I hg hm PyProof.Rows.boot_zip (PyProof.Rows.callWith_type1 (thn (ha.run pos pins s σ H _ I h) fun us s1 ⟨vs, H1, I1, r1, q1⟩ => ?_) hs hpl))
  obtain ⟨a, b, xs, ys, ex, q1⟩ := q1
  subst ex
  obtain ⟨u1, u2, rfl, r, r'⟩ := vals2 r1
  cases r
  cases r'
  have fresh5 : ∀ c, c ∈ [s1.heap.objs.size + 4, s1.heap.objs.size + 2, s1.heap.objs.size + 3, s1.heap.objs.size, s1.heap.objs.size + 1] → FpOk X pins H1 c := fun c hcm => by
    have hle : s1.heap.objs.size ≤ c := by
      simp only [List.mem_cons, List.not_mem_nil, or_false] at hcm
      rcases hcm with z | z | z | z | z
      · exact Nat.le_trans (Nat.le_add_right _ 4) (Nat.le_of_eq z.symm)
      · exact Nat.le_trans (Nat.le_add_right _ 2) (Nat.le_of_eq z.symm)
      · exact Nat.le_trans (Nat.le_add_right _ 3) (Nat.le_of_eq z.symm)
      · exact Nat.le_of_eq z.symm
      · exact Nat.le_trans (Nat.le_add_right _ 1) (Nat.le_of_eq z.symm)
    exact I1.fpOk hle (I1.hok.fresh hle)
  rcases q1 with ⟨hqx, hqy, q⟩ | ⟨hqx, hqy, q⟩ | ⟨hqx, hqy, q⟩
  · obtain ⟨its, rv, p1, _⟩ := I1.list hqx
    obtain ⟨its2, rv2, p2, _⟩ := I1.list hqy
    refine call_zip_2 p1.isList p2.isList fun h' hz hTI hTO h1 h2 hsz hk => wpAny_pyIter_zip hz ?_
    exact ⟨_, _, _, _, H1, rfl, I1.kept (t' := s1.toks) hk, turn_zip (PySem.W.ktu_apart s1.heap.objs.size a b p1.lt p2.lt), ⟨hz, hTI, ⟨_, _, hTO⟩, h1, h2⟩, fresh5, q⟩
  · obtain ⟨its, rv, p1, _⟩ := I1.tuple hqx
    obtain ⟨its2, rv2, p2, _⟩ := I1.tuple hqy
    obtain ⟨o1, ho1, _⟩ := id p1
    obtain ⟨o2, ho2, _⟩ := id p2
    refine RZ.call_zipT (show s1.heap.IsTuple a its.toArray from p1) (show s1.heap.IsTuple b its2.toArray from p2) fun h' hz hTI hTO h1 h2 hsz hk => wpAny_pyIter_zip hz ?_
    exact ⟨_, _, _, _, H1, rfl, I1.kept (t' := s1.toks) hk, RZ.turn_zipT (PySem.W.ktu_apart s1.heap.objs.size a b (Heap.lt_size ho1) (Heap.lt_size ho2)), ⟨hz, hTI, ⟨_, _, hTO⟩, h1, h2⟩, fresh5, q⟩
  · obtain ⟨its, rv, p1, _⟩ := I1.list hqx
    obtain ⟨its2, rv2, p2, _⟩ := I1.tuple hqy
    obtain ⟨o2, ho2, _⟩ := id p2
    have la : a < s1.heap.objs.size := p1.lt
    have lb : b < s1.heap.objs.size := Heap.lt_size ho2
    refine zip_begins2 (begins_list a its.toArray) (begins_tuple b its2.toArray) p1.isList p2 fun h' hz hTI hTO g1 g2 hsz hk => wpAny_pyIter_zip hz ?_
    have D : ZmAt (s1.heap.objs.size + 4) (s1.heap.objs.size + 2) (s1.heap.objs.size + 3) s1.heap.objs.size (s1.heap.objs.size + 1) a b :=
      ⟨zip_sep2 (fun c hc => by rw [List.mem_singleton.mp hc]; exact la) (fun c hc => by rw [List.mem_singleton.mp hc]; exact lb), Nat.ne_of_lt la, Nat.ne_of_lt (Nat.lt_succ_of_lt lb)⟩
    exact ⟨_, _, _, _, H1, rfl, I1.kept (t' := s1.toks) hk, turn_zipM D, ⟨hz, hTI, ⟨_, _, hTO⟩, ⟨_, g1, rfl, rfl⟩, ⟨_, g2, rfl, rfl⟩⟩, fresh5, q⟩
end Ev
set_option Elab.async false
set_option linter.all false
set_option maxRecDepth 100000
set_option maxHeartbeats 4000000
set_option autoImplicit false
/-! Ev5: what is wanted behind a tree; the ground; expressions. -/
namespace Ev
open PySem PySem.Spec PyProof.Rows L2
variable [TabT]
/-- how an error stands: its class, its own dict -/
abbrev RXT := Exn → Value → Option Addr → Hp → Prop
section
variable (RX : RXT) (K : PySem.W.Frag) (W : WX)
/-- what is wanted behind a tree -/
def Post {a b : Type} (B : Addr → Prop) (e : Env) (σ : L2.St) (H : Hp) (Rel : (Addr → Prop) → Hp → a → b → Prop) (r : R a) (Q : b → Hp → Prop) : Prop := match r with
  | .ok x e' => ∀ y H', RSt K B H' e' σ → Stp H e σ H' e' σ → Rel (Of B e' σ) H' x y → Q y H'
  | .ex x e' => ∀ c dd H', RSt K B H' e' σ → Stp H e σ H' e' σ → RX x c dd H' → W c dd σ H'
  | .no => False
end
section
variable {RX : RXT} {K : PySem.W.Frag} {W : WX} {B : Addr → Prop} {e e1 : Env} {σ : L2.St} {H H1 : Hp} {a b c d : Type} {Rel : (Addr → Prop) → Hp → a → b → Prop} {Rel2 : (Addr → Prop) → Hp → c → d → Prop}
theorem Post.shift {r : R a} {Q : b → Hp → Prop} (st : Stp H e σ H1 e1 σ) (h : Post RX K W B e σ H Rel r Q) : Post RX K W B e1 σ H1 Rel r Q := by
  cases r with
  | ok x e' => exact fun y H' rs s rl => h y H' rs (st.trans s) rl
  | ex x e' => exact fun y dd H' rs s rl => h y dd H' rs (st.trans s) rl
  | no => exact h
theorem Post.bind {r : R a} {f : a → Env → R c} {Q2 : d → Hp → Prop} {Q : b → Hp → Prop} (h : Post RX K W B e σ H Rel2 (r.bind f) Q2)
    (k : ∀ x e1 y H1, r = .ok x e1 → RSt K B H1 e1 σ → Stp H e σ H1 e1 σ → Rel (Of B e1 σ) H1 x y → Post RX K W B e1 σ H1 Rel2 (f x e1) Q2 → Q y H1) : Post RX K W B e σ H Rel r Q := by
  cases r with
  | ok x e1 => exact fun y H1 rs st rl => k x e1 y H1 rfl rs st rl (Post.shift st h)
  | ex x e1 => exact h
  | no => exact h
theorem Post.mono {r : R a} {Q Q' : b → Hp → Prop} (h : Post RX K W B e σ H Rel r Q) (k : ∀ y H', Q y H' → Q' y H') : Post RX K W B e σ H Rel r Q' := by
  cases r with
  | ok x e1 => exact fun y H1 rs st rl => k _ _ (h y H1 rs st rl)
  | ex x e1 => exact h
  | no => exact h
theorem RSt.al (rs : RSt K B H e σ) (x : Addr) (h : Of B e σ x) : H x ≠ none := by
  obtain ⟨vs, q, _⟩ := rs.ofs h
  rw [q]
  exact fun z => by cases z
/-- the heap has grown, the tables too -/
theorem RSt.grown {H' : Hp} (r : RSt K B H e σ) (x : LamX.ExtN H H') (al : ∀ b, H b ≠ none → H' b ≠ none) (t : LamX.Tabs TabT.T H') : RSt K B H' e σ ∧ Stp H e σ H' e σ := by
  have fr : Fr (fun _ => False) H H' := ⟨fun a o h nt _ => x a o h nt, fun _ z => z.elim⟩
  have mono : ∀ {d' : D} {v' : V}, Rp K (Of B e σ) H d' v' → Rp K (Of B e σ) H' d' v' := fun {d' v'} q => Rp.mono fr (fun _ z => z.elim) (fun b q => .inl q) q
  have monos : ∀ {n : Bool} {es' : List D} {us' : List V}, Rpo K (Of B e σ) H n es' us' → Rpo K (Of B e σ) H' n es' us' := fun {n es' us'} q => Rpo.mono fr (fun _ z => z.elim) (fun b q => .inl q) q
  refine ⟨⟨r.len, fun i d h => ?_, fun i _ es h => ?_, r.inj, fun a h => ?_, t⟩, ⟨fun a o h nt _ => x a o h nt, al, fun a h => .inl h⟩⟩
  · obtain ⟨v, w1, w2⟩ := r.val i d h
    exact ⟨v, w1, mono w2⟩
  · obtain ⟨a, us, w1, w2, w3, w4⟩ := r.own i es h
    exact ⟨a, us, w1, w2, w3.elim fun ob w3 => ⟨ob, x _ _ w3 NT.LO⟩, monos w4⟩
  · obtain ⟨us, w, w'⟩ := r.bnd a h
    exact ⟨us, x _ _ w w'.nt, w'⟩
/-- at a value's end -/
theorem Post.vok {o : Option D} {Q : VK} (rs : RSt K B H e σ) (h : Post RX K W B e σ H (Rp K) (R.of o e) Q) : ∃ x, o = some x ∧ VOk K (Of B e σ) H x Q := by
  cases o with
  | none => exact h.elim
  | some x =>
    refine ⟨x, rfl, fun v H' ex r => ?_⟩
    rcases ex with rfl | ⟨p, ob, hp, rfl⟩
    · exact h v _ rs .refl r
    · obtain ⟨rs', st⟩ := rs.laid (o := ob) hp
      exact h v _ rs' st r
theorem Post.same {x : D} {Q : VK} (rs : RSt K B H e σ) (h : Post RX K W B e σ H (Rp K) (.ok x e) Q) : VOk K (Of B e σ) H x Q := by
  obtain ⟨y, q, z⟩ := Post.vok (o := some x) rs h
  cases q
  exact z
end
/-! ### the ground -/
def retArgs (args : List Sl) (cs : List D) : List Sl := match args with
  | .ow false _ :: r => .own cs :: r
  | r => r
/-- what a def of the table promises -/
def spF (RX : RXT) (K : PySem.W.Frag) (c : Call) (f np : Nat) : Sp := fun vs H Q E => vs.length = np ∧ ∃ (B : Addr → Prop) (args : List Sl), RSt K B H (args.map some) (vs.map some) ∧ (match c f args with
  | .ok d cs => ∀ v H', RSt K B H' ((retArgs args cs).map some) (vs.map some) → Stp H (args.map some) (vs.map some) H' ((retArgs args cs).map some) (vs.map some) → Rp K (Of B ((retArgs args cs).map some) (vs.map some)) H' d v → Q v H'
  | .ex x => ∀ cl dd H', RSt K B H' (args.map some) (vs.map some) → Stp H (args.map some) (vs.map some) H' (args.map some) (vs.map some) → RX x cl dd H' → E cl dd H'
  | .no => False)
structure Ok (RX : RXT) (Γ : Gam) (C : Ctx) (gv : Nat → V) (X : Cx) (W : WX) : Prop where
  calm : X.calm = true
  nd : Γ.N.Nodup
  hN : X.N = Γ.N
  hsc : X.env.scope = Γ.sc
  kd : Γ.sc.kind = .function
  fn : ∀ x, (match Γ.cs with | none => true | some sc => sc.names.lookup x == some .cell) = true → X.fn x = true
  tk : Takes X W
  hu : X.A.units + 65 < cLine
  call : ∀ f fi, Γ.fns[f]? = some fi → ∃ (ad : Addr) (fd : FuncData) (k : Nat), X.mg fi.name = some (.ref ad) ∧ PySem.W.keepIn X.K (.ref ad) = true ∧ Binds X.K fd fi.ps [] ∧ Room k X.A ∧
    FnOk X.prog X.w X.K X.mg X.base (L2.CX X.prog X.w) k ad fd fi.ps (spF RX X.K C.call f fi.ps.length)
  glob : ∀ g n, Γ.gls[g]? = some n → ∃ u, X.mg n = some u ∧ RelV (gv g) u
  blt : ∀ n, n ∈ bltNames → X.mg n = none
  hdp : X.A.depth < recursionLimit
  lam : Γ.lm = true → ∃ c P, X.env.code = .ref c ∧ LamX.TabB X.base X.mg c P ∧ (P, X.env.qual ++ "<lambda>") ∈ TabT.T ∧ ∀ p ∈ TabT.T, p.1 = P → p.2 = X.env.qual ++ "<lambda>"
/-- what holds of the table, whatever runs -/
structure St0 (Γ : Gam) (C : Ctx) (gv : Nat → V) (K : PySem.W.Frag) : Prop where
  ar : ∀ (f : Nat) (fi : FnI) (args : List Sl), Γ.fns[f]? = some fi → args.length ≠ fi.ps.length → C.call f args = .no
  glob : ∀ (g : Nat) (n : Str), Γ.gls[g]? = some n → ∀ O H, Rp K O H (C.glob g) (gv g)
section
variable {RX : RXT} {Γ : Gam} {C : Ctx} {gv : Nat → V} {X : Cx} {W : WX}
theorem and2 {a b : Bool} (h : (a && b) = true) : a = true ∧ b = true := Bool.and_eq_true_iff.mp h
theorem Ok.vis (ok : Ok RX Γ C gv X W) {x : Str} (h : visB Γ x = true) : Vis X.env.scope x ∧ (x == ("__debug__" : Str)) = false ∧ (x == ("__classdict__" : Str)) = false := by
  unfold visB badName at h
  obtain ⟨h1, h2⟩ := and2 h
  simp only [Bool.not_eq_true', Bool.or_eq_false_iff] at h2
  refine ⟨?_, h2.1.1, h2.1.2⟩
  rw [ok.hsc]
  unfold Vis
  split at h1 <;> first | (rename_i q; exact .inl q) | (rename_i q; exact .inr (.inl q)) | (rename_i q; exact .inr (.inr q)) | cases h1
theorem Ok.gl (ok : Ok RX Γ C gv X W) {x : Str} (h : glB Γ x = true) : Gl X x ∧ (x == ("__debug__" : Str)) = false ∧ x ≠ "__name__" := by
  unfold glB badName at h
  obtain ⟨h1, h2⟩ := and2 h
  simp only [Bool.not_eq_true', Bool.or_eq_false_iff] at h2
  refine ⟨?_, h2.1.1, fun z => ?_⟩
  · unfold Gl
    show X.env.scope.names.lookup x = _
    rw [ok.hsc]
    split at h1 <;> first | (rename_i q; exact q) | cases h1
  · have := h2.2
    rw [z] at this
    revert this
    decide
theorem Ok.st (ok : Ok RX Γ C gv X W) {x : Str} (h : stB Γ x = true) : L2.Loc X.env.scope x ∧ (X.fn x = true ∨ X.env.scope.names.lookup x = some .local) := by
  unfold stB at h
  rw [ok.hsc]
  unfold L2.Loc
  cases q : Γ.sc.names.lookup x with
  | none => rw [q] at h; cases h
  | some k =>
    rw [q] at h
    cases k with
    | «local» => exact ⟨.inl rfl, .inr rfl⟩
    | cell => exact ⟨.inr rfl, .inl (ok.fn x h)⟩
    | _ => cases h
/-! ### the judgements: over every ground of this kind -/
abbrev PostE (RX : RXT) (K : PySem.W.Frag) (W : WX) (B : Addr → Prop) (e : Env) (σ : L2.St) (H : Hp) (r : R D) (Q : VK) : Prop := Post RX K W B e σ H (Rp K) r Q
def tst (f : Env → R D) : Env → R Bool := fun e => (f e).bind fun d e => R.of d.tr e
def eqB : (Addr → Prop) → Hp → Bool → Bool → Prop := fun _ _ a b => a = b
section
variable (RX : RXT) (Γ : Gam) (C : Ctx) (gv : Nat → V) (K : PySem.W.Frag) (W : WX)
def SE (ex : PySem.Expr) (f : Env → R D) : Prop := ∃ t, (∀ X, Ok RX Γ C gv X W → X.K = K → PE X ex t) ∧ ∀ B e σ H Q, RSt K B H e σ → PostE RX K W B e σ H (f e) Q → t σ H Q
def ST (ex : PySem.Expr) (f : Env → R D) : Prop := ∃ t, (∀ X, Ok RX Γ C gv X W → X.K = K → PT X ex t) ∧ ∀ B e σ H Q, RSt K B H e σ → Post RX K W B e σ H eqB (tst f e) Q → t σ H Q
/-- a test of many parts: what comes after the first -/
def SW (ex : PySem.Expr) (f : Env → R D) : Prop := ∃ t, (∀ X, Ok RX Γ C gv X W → X.K = K → PW X ex t) ∧ ∀ B e σ H Q, RSt K B H e σ → Post RX K W B e σ H eqB (tst f e) Q → t σ H Q
def SL (es : List PySem.Expr) (f : Env → R (List D)) : Prop := ∃ t, (∀ X, Ok RX Γ C gv X W → X.K = K → PA X es t) ∧ ∀ B e σ H Q, RSt K B H e σ → Post RX K W B e σ H (Rps K) (f e) Q → t σ H Q
/-- a part of a slice -/
def SP1 (o : Option PySem.Expr) (f : Env → R (Option Int)) : Prop := ∃ t, (∀ X, Ok RX Γ C gv X W → X.K = K → PO X o t) ∧ ∀ B e σ H Q, RSt K B H e σ → Post RX K W B e σ H (fun _ _ d p => d = p) (f e) Q → t σ H Q
/-- what is walked: a list, a tuple, a range -/
def Wk (O : Addr → Prop) (H : Hp) (ds : List D) (J : It) : Prop :=
  (∃ a, J = Itl K a ∧ (Rp K O H (.lst ds) (.ref a) ∨ Rp K O H (.fz ds) (.ref a))) ∨ (∃ a, J = Itt K a ∧ Rp K O H (.tup ds) (.ref a)) ∨ (∃ (lo : Int) (n : Nat), J = Itr lo n ∧ ds = range_ lo n) ∨
  (∃ a b xs ys, J = Itz K a b ∧ ds = zipD xs ys ∧ Rp K O H (.lst xs) (.ref a) ∧ Rp K O H (.lst ys) (.ref b)) ∨ (∃ a b xs ys, J = RZ.ItzT K a b ∧ ds = zipD xs ys ∧ Rp K O H (.tup xs) (.ref a) ∧ Rp K O H (.tup ys) (.ref b)) ∨
  (∃ dd vs, J = ItV dd vs ∧ Rps K O H ds vs ∧ ∀ p, dd = some p → H p.1 = some p.2 ∧ NT p.2 ∧ ¬ O p.1) ∨ ∃ a b xs ys, J = ItzM K a b ∧ ds = zipD xs ys ∧ Rp K O H (.lst xs) (.ref a) ∧ Rp K O H (.tup ys) (.ref b)
def SI (tg ex : PySem.Expr) (f : Env → R (List D)) : Prop := ∃ t, (∀ X, Ok RX Γ C gv X W → X.K = K → PI X tg ex t) ∧ ∀ B e σ H Q, RSt K B H e σ → Post RX K W B e σ H (Wk K) (f e) Q → t σ H Q
end
section
variable {K : PySem.W.Frag} {ex : PySem.Expr} {f : Env → R D}
theorem SE.test (h : SE RX Γ C gv K W ex f) (he : ∀ (env : PySem.Env) whole, isTrue ex env whole = (do let v ← whole; standAt ex.pos; holding [v] (truthy v))) : ST RX Γ C gv K W ex f := by
  obtain ⟨t, p, q⟩ := h
  refine ⟨fun σ H Q => t σ H fun x H' => ∃ k, TruV K x H' k ∧ Q k H', fun X ok hK => by subst hK; exact pt_truth (p X ok rfl) (he _), fun B e σ H Q rs h => ?_⟩
  refine q B e σ H _ rs (Post.bind h fun d e1 v H1 _ rs1 _ rl h1 => ?_)
  cases z : d.tr with
  | none =>
    rw [z] at h1
    exact h1.elim
  | some b =>
    rw [z] at h1
    exact ⟨b, truth_val rl z, h1 b H1 rs1 .refl rfl⟩
theorem star_cons {ex : PySem.Expr} {es : List PySem.Expr} {env : PySem.Env} (h : isStar ex = false) : starEach (ex :: es) env = (false, eval ex env) :: starEach es env := by
  cases ex <;> first | rfl | cases h
theorem star_any {pos : Pos} {env : PySem.Env} : ∀ {es : List PySem.Expr}, noStar es = true → (backTo pos (starEach es env)).any (·.1) = false
  | [], _ => rfl
  | ex :: es, h => by
    unfold noStar at h
    rw [List.all_cons] at h
    obtain ⟨h1, h2⟩ := and2 h
    rw [star_cons (by simpa using h1)]
    show (false || (backTo pos (starEach es env)).any (·.1)) = false
    rw [star_any h2]
    rfl
theorem se_lit {dv : D} {cst : Const} {n : Nat} {pos : Pos} (h : litB dv cst = true) : SE RX Γ C gv K W (.Constant cst n pos) fun e => .ok dv e := by
  cases dv with
  | non =>
    cases cst with
    | none => exact ⟨tC .non, fun X _ _ => pe_non, fun B e σ H Q rs h => (Post.same rs h).same .non⟩
    | _ => cases h
  | bl b =>
    cases cst with
    | bool b' =>
      have e1 : b = b' := by simpa [litB] using h
      subst e1
      exact ⟨tC (.bl b), fun X _ _ => pe_bl, fun B e σ H Q rs h => (Post.same rs h).same (.bl b)⟩
    | _ => cases h
  | int i =>
    cases cst with
    | int j =>
      have e1 : i = j := of_decide_eq_true h
      subst e1
      exact ⟨tC (.int i), fun X _ _ => pe_int, fun B e σ H Q rs h => (Post.same rs h).same (.int i)⟩
    | _ => cases h
  | str x =>
    cases cst with
    | str y =>
      have e1 : x = y := of_decide_eq_true h
      subst e1
      exact ⟨tC (.str x), fun X _ _ => pe_str, fun B e σ H Q rs h => (Post.same rs h).same (.str x)⟩
    | _ => cases h
  | _ => cases cst <;> cases h
theorem pe_slot (ok : Ok RX Γ C gv X W) {i : Nat} {x : Str} {pos : Pos} (h1 : Γ.N[i]? = some x) (h2 : visB Γ x = true) : PE X (.Name x pos) (tVar i) := by
  obtain ⟨v1, v2, v3⟩ := ok.vis h2
  exact pe_var (by rw [ok.hN]; exact h1) v1 v2 v3
theorem se_var {i : Nat} {x : Str} {pos : Pos} (h1 : Γ.N[i]? = some x) (h2 : visB Γ x = true) : SE RX Γ C gv K W (.Name x pos) fun e => getV e i := by
  refine ⟨tVar i, fun X ok _ => pe_slot ok h1 h2, fun B e σ H Q rs h => ?_⟩
  have h : PostE RX K W B e σ H (getV e i) Q := h
  unfold getV at h
  cases q : e[i]? with
  | none => rw [q] at h; exact h.elim
  | some o =>
    rw [q] at h
    cases o with
    | none => exact h.elim
    | some sl =>
      cases sl with
      | val d =>
        obtain ⟨v, w1, w2⟩ := rs.val i d q
        exact ⟨v, w1, h v H rs .refl w2⟩
      | ow m ds =>
        obtain ⟨rs1, st1, v, w1, w2⟩ := rs.freeze q
        cases m with
        | true => exact ⟨v, w1, h v H rs1 st1 w2⟩
        | false => exact ⟨v, w1, h v H rs1 st1 w2⟩
theorem se_gval (g0 : St0 Γ C gv K) {g : Nat} {x : Str} {pos : Pos} (h1 : Γ.gls[g]? = some x) (h2 : glB Γ x = true) : SE RX Γ C gv K W (.Name x pos) fun e => .ok (C.glob g) e := by
  refine ⟨tC (gv g), fun X ok hK => ?_, fun B e σ H Q rs h => (Post.same rs h).same (g0.glob g x h1 _ _)⟩
  obtain ⟨v1, v2, v3⟩ := ok.gl h2
  obtain ⟨u, m, r⟩ := ok.glob g x h1
  exact pe_glob v1 m r v2
theorem se_tup {es : List PySem.Expr} {n : Nat} {pos : Pos} {g : Env → R (List D)} (h : SL RX Γ C gv K W es g) : SE RX Γ C gv K W (.Tuple es n pos) fun e => (g e).bind fun ds e => if ds.length ≤ lim then .ok (.tup ds) e else .no := by
  obtain ⟨t, p, q⟩ := h
  refine ⟨tTup t, fun X ok hK => pe_tup (p X ok hK), fun B e σ H Q rs h => ?_⟩
  refine q B e σ H _ rs (Post.bind h fun ds e1 vs H1 _ rs1 _ rl h1 => ?_)
  split at h1
  · rename_i hl
    refine ⟨?_, fun p hp => (Post.same rs1 h1).newT rl hp⟩
    rw [← rl.len]
    exact Nat.le_trans hl lim_line
  · exact h1.elim
theorem se_lst {es : List PySem.Expr} {pos : Pos} {g : Env → R (List D)} (h : SL RX Γ C gv K W es g) : SE RX Γ C gv K W (.List es pos) fun e => (g e).bind fun ds e => if ds.length ≤ lim then .ok (.lst ds) e else .no := by
  obtain ⟨t, p, q⟩ := h
  refine ⟨tLst t, fun X ok hK => pe_lst (p X ok hK), fun B e σ H Q rs h => ?_⟩
  refine q B e σ H _ rs (Post.bind h fun ds e1 vs H1 _ rs1 _ rl h1 => ?_)
  split at h1
  · rename_i hl
    refine ⟨?_, fun p hp => (Post.same rs1 h1).newL (fun a => rs1.al a) rl hp⟩
    rw [← rl.len]
    exact Nat.le_trans hl lim_line
  · exact h1.elim
variable {x y z : PySem.Expr} {fa fb fc : Env → R D} {pos : Pos}
theorem se_bin {o : Bop} (ha : SE RX Γ C gv K W x fa) (hb : SE RX Γ C gv K W y fb) : SE RX Γ C gv K W (.BinOp x (opOf o) y pos) fun e => (fa e).bind fun a e => (fb e).bind fun b e => R.of (binop o a b) e := by
  obtain ⟨ta, pa, qa⟩ := ha
  obtain ⟨tb, pb, qb⟩ := hb
  refine ⟨tOp (rBin K o) ta tb, fun X ok hK => by subst hK; exact pe_op (bin_ok o) (pa X ok rfl) (pb X ok rfl), fun B e σ H Q rs h => ?_⟩
  refine qa B e σ H _ rs (Post.bind h fun d1 e1 v1 H1 _ rs1 _ r1 h1 => ?_)
  refine qb B e1 σ H1 _ rs1 (Post.bind h1 fun d2 e2 v2 H2 _ rs2 st2 r2 h2 => ?_)
  obtain ⟨d, hd, q⟩ := Post.vok rs2 h2
  exact ⟨Of B e2 σ, d1, d2, d, fun a => rs2.al a, rs1.keep st2 r1, r2, hd, q⟩
def negF (fa : Env → R D) : Env → R D := fun e => (fa e).bind fun a e => match a with
    | .int i => .ok (.int (-i)) e
    | _ => .no
theorem se_neg (ha : SE RX Γ C gv K W x fa) : SE RX Γ C gv K W (.UnaryOp .USub x pos) (negF fa) := by
  obtain ⟨ta, pa, qa⟩ := ha
  refine ⟨tUn (rU fun i => .int (-i)) ta, fun X ok hK => pe_un un_neg (pa X ok hK), fun B e σ H Q rs h => ?_⟩
  have h : PostE RX K W B e σ H (negF fa e) Q := h
  refine qa B e σ H _ rs (Post.bind h fun d1 e1 v1 H1 _ rs1 _ r1 h1 => ?_)
  cases d1 with
  | int i => exact ⟨i, r1.unint, (Post.same rs1 h1).same (.int _)⟩
  | _ => exact h1.elim
theorem no_marks {o : Cop} (h : isSet y = false) : behindInMarks (copOf o) y = false := by
  cases y <;> first | rfl | cases h
def cmpF (o : Cop) (fa fb : Env → R D) : Env → R D := fun e => (fa e).bind fun a e => (fb e).bind fun b e => R.of ((cmpop o a b).map D.bl) e
theorem se_cmp {o : Cop} (hs : isSet y = false) (ha : SE RX Γ C gv K W x fa) (hb : SE RX Γ C gv K W y fb) : SE RX Γ C gv K W (.Compare x [copOf o] [y] pos) (cmpF o fa fb) ∧ ST RX Γ C gv K W (.Compare x [copOf o] [y] pos) (cmpF o fa fb) := by
  obtain ⟨ta, pa, qa⟩ := ha
  obtain ⟨tb, pb, qb⟩ := hb
  constructor
  · refine ⟨tOp (rCmp K o) ta tb, fun X ok hK => by subst hK; exact pe_cmpR (cmp_ok ok.hu o) (pa X ok rfl) (pb X ok rfl) (no_marks hs), fun B e σ H Q rs h => ?_⟩
    have h : PostE RX K W B e σ H (cmpF o fa fb e) Q := h
    refine qa B e σ H _ rs (Post.bind h fun d1 e1 v1 H1 _ rs1 _ r1 h1 => ?_)
    refine qb B e1 σ H1 _ rs1 (Post.bind h1 fun d2 e2 v2 H2 _ rs2 st2 r2 h2 => ?_)
    obtain ⟨d, hd, q⟩ := Post.vok rs2 h2
    cases k : cmpop o d1 d2 with
    | none => rw [k] at hd; cases hd
    | some b =>
      rw [k] at hd
      cases hd
      exact ⟨Of B e2 σ, d1, d2, b, rs1.keep st2 r1, r2, k, q.same (.bl b)⟩
  · refine ⟨tTest (tOp (rCmp K o) ta tb), fun X ok hK => by subst hK; exact pt_cmpR (cmp_ok ok.hu o) (pa X ok rfl) (pb X ok rfl) (no_marks hs), fun B e σ H Q rs h => ?_⟩
    have h' : Post RX K W B e σ H eqB ((fa e).bind fun a e => (fb e).bind fun b e => R.of (cmpop o a b) e) Q := by
      have e0 : tst (cmpF o fa fb) e = (fa e).bind fun a e => (fb e).bind fun b e => R.of (cmpop o a b) e := by
        unfold tst cmpF
        cases fa e with
        | ok a e1 =>
          show R.bind (R.bind (fb e1) _) _ = R.bind (fb e1) _
          cases fb e1 with
          | ok b e2 =>
            show (R.of ((cmpop o a b).map D.bl) e2).bind _ = R.of (cmpop o a b) e2
            cases cmpop o a b <;> rfl
          | ex _ _ => rfl
          | no => rfl
        | ex _ _ => rfl
        | no => rfl
      rw [← e0]
      exact h
    refine qa B e σ H _ rs (Post.bind h' fun d1 e1 v1 H1 _ rs1 _ r1 h1 => ?_)
    refine qb B e1 σ H1 _ rs1 (Post.bind h1 fun d2 e2 v2 H2 _ rs2 st2 r2 h2 => ?_)
    cases k : cmpop o d1 d2 with
    | none => rw [k] at h2; exact h2.elim
    | some b =>
      rw [k] at h2
      exact ⟨Of B e2 σ, d1, d2, b, rs1.keep st2 r1, r2, k, b, rfl, h2 b H2 rs2 .refl rfl⟩
end
end
end Ev
set_option Elab.async false
set_option linter.all false
set_option maxRecDepth 100000
set_option maxHeartbeats 4000000
set_option autoImplicit false
/-! Ev6: further expressions. -/
namespace Ev
open PySem PySem.Spec PyProof.Rows L2
variable [TabT]
section
variable {RX : RXT} {Γ : Gam} {C : Ctx} {gv : Nat → V} {K : PySem.W.Frag} {W : WX} {x y z : PySem.Expr} {fa fb fc : Env → R D} {pos : Pos}
def cmp2F (o p : Cop) (fa fb fc : Env → R D) : Env → R D := fun e => (fa e).bind fun a e => (fb e).bind fun b e => match cmpop o a b with
    | some true => (fc e).bind fun c e => R.of ((cmpop p b c).map D.bl) e
    | some false => .ok (.bl false) e
    | none => .no
theorem no_last {o p : Cop} (h : isSet z = false) : lastMarks [copOf o, copOf p] [y, z] = false := no_marks (o := p) h
theorem se_cmp2 {o p : Cop} (hs : isSet z = false) (ha : SE RX Γ C gv K W x fa) (hb : SE RX Γ C gv K W y fb) (hc : SE RX Γ C gv K W z fc) : SE RX Γ C gv K W (.Compare x [copOf o, copOf p] [y, z] pos) (cmp2F o p fa fb fc) ∧
    ST RX Γ C gv K W (.Compare x [copOf o, copOf p] [y, z] pos) (cmp2F o p fa fb fc) := by
  obtain ⟨ta, pa, qa⟩ := ha
  obtain ⟨tb, pb, qb⟩ := hb
  obtain ⟨tc, pc, qc⟩ := hc
  constructor
  · refine ⟨tChain (rCmp K o) (rCmp K p) ta tb tc, fun X ok hK => by subst hK; exact pe_chain (cmp_ok ok.hu o) (cmp_ok ok.hu p) (pa X ok rfl) (pb X ok rfl) (pc X ok rfl) (no_last hs), fun B e σ H Q rs h => ?_⟩
    have h : PostE RX K W B e σ H (cmp2F o p fa fb fc e) Q := h
    refine qa B e σ H _ rs (Post.bind h fun d1 e1 v1 H1 _ rs1 _ r1 h1 => ?_)
    refine qb B e1 σ H1 _ rs1 (Post.bind h1 fun d2 e2 v2 H2 _ rs2 st2 r2 h2 => ?_)
    cases k : cmpop o d1 d2 with
    | none => rw [k] at h2; exact h2.elim
    | some b =>
      rw [k] at h2
      refine ⟨Of B e2 σ, d1, d2, b, rs1.keep st2 r1, r2, k, b, rfl, ?_⟩
      cases b with
      | false =>
        rw [if_neg Bool.false_ne_true]
        exact (Post.same rs2 h2).same (.bl false)
      | true =>
        rw [if_pos rfl]
        refine qc B e2 σ H2 _ rs2 (Post.bind h2 fun d3 e3 v3 H3 _ rs3 st3 r3 h3 => ?_)
        obtain ⟨d, hd, q⟩ := Post.vok rs3 h3
        cases k2 : cmpop p d2 d3 with
        | none => rw [k2] at hd; cases hd
        | some b =>
          rw [k2] at hd
          cases hd
          exact ⟨Of B e3 σ, d2, d3, b, rs2.keep st3 r2, r3, k2, q.same (.bl b)⟩
  · refine ⟨tTest (tChain (rCmp K o) (rCmp K p) ta tb tc), fun X ok hK => by subst hK; exact pt_chain (cmp_ok ok.hu o) (cmp_ok ok.hu p) (pa X ok rfl) (pb X ok rfl) (pc X ok rfl) (no_last hs), fun B e σ H Q rs h => ?_⟩
    have h' : Post RX K W B e σ H eqB ((fa e).bind fun a e => (fb e).bind fun b e => match cmpop o a b with
        | some true => (fc e).bind fun c e => R.of (cmpop p b c) e
        | some false => .ok false e
        | none => .no) Q := by
      have e0 : tst (cmp2F o p fa fb fc) e = (fa e).bind fun a e => (fb e).bind fun b e => match cmpop o a b with
        | some true => (fc e).bind fun c e => R.of (cmpop p b c) e
        | some false => .ok false e
        | none => .no := by
        unfold tst cmp2F
        cases fa e with
        | ok a e1 =>
          show R.bind (R.bind (fb e1) _) _ = R.bind (fb e1) _
          cases fb e1 with
          | ok b e2 =>
            show R.bind (match cmpop o a b with
              | some true => (fc e2).bind fun c e => R.of ((cmpop p b c).map D.bl) e
              | some false => .ok (.bl false) e2
              | none => .no) _ = (match cmpop o a b with
              | some true => (fc e2).bind fun c e => R.of (cmpop p b c) e
              | some false => .ok false e2
              | none => .no)
            cases cmpop o a b with
            | none => rfl
            | some k =>
              cases k with
              | false => rfl
              | true =>
                show R.bind (R.bind (fc e2) _) _ = R.bind (fc e2) _
                cases fc e2 with
                | ok c e3 =>
                  show R.bind (R.of ((cmpop p b c).map D.bl) e3) _ = R.of (cmpop p b c) e3
                  cases cmpop p b c <;> rfl
                | ex _ _ => rfl
                | no => rfl
          | ex _ _ => rfl
          | no => rfl
        | ex _ _ => rfl
        | no => rfl
      rw [← e0]
      exact h
    refine qa B e σ H _ rs (Post.bind h' fun d1 e1 v1 H1 _ rs1 _ r1 h1 => ?_)
    refine qb B e1 σ H1 _ rs1 (Post.bind h1 fun d2 e2 v2 H2 _ rs2 st2 r2 h2 => ?_)
    cases k : cmpop o d1 d2 with
    | none => rw [k] at h2; exact h2.elim
    | some b =>
      rw [k] at h2
      refine ⟨Of B e2 σ, d1, d2, b, rs1.keep st2 r1, r2, k, b, rfl, ?_⟩
      cases b with
      | false =>
        rw [if_neg Bool.false_ne_true]
        exact ⟨false, rfl, h2 false H2 rs2 .refl rfl⟩
      | true =>
        rw [if_pos rfl]
        refine qc B e2 σ H2 _ rs2 (Post.bind h2 fun d3 e3 v3 H3 _ rs3 st3 r3 h3 => ?_)
        cases k2 : cmpop p d2 d3 with
        | none => rw [k2] at h3; exact h3.elim
        | some b =>
          rw [k2] at h3
          exact ⟨Of B e3 σ, d2, d3, b, rs2.keep st3 r2, r3, k2, b, rfl, h3 b H3 rs3 .refl rfl⟩
/-! ### and, or, not, if -/
def andF (fa fb : Env → R D) : Env → R D := fun e => (fa e).bind fun x e => match x with
    | .bl true => fb e
    | .bl false => .ok (.bl false) e
    | _ => .no
def orF (fa fb : Env → R D) : Env → R D := fun e => (fa e).bind fun x e => match x with
    | .bl true => .ok (.bl true) e
    | .bl false => fb e
    | .int i => if i = 0 then fb e else .ok (.int i) e
    | _ => .no
theorem se_and {rest : List PySem.Expr} (ha : SE RX Γ C gv K W x fa) (hb : SE RX Γ C gv K W (.BoolOp .And (y :: rest) pos) fb) : SE RX Γ C gv K W (.BoolOp .And (x :: y :: rest) pos) (andF fa fb) := by
  obtain ⟨ta, pa, qa⟩ := ha
  obtain ⟨tb, pb, qb⟩ := hb
  refine ⟨tAndV ta tb, fun X ok hK => pe_and (pa X ok hK) (pb X ok hK), fun B e σ H Q rs h => ?_⟩
  have h : PostE RX K W B e σ H (andF fa fb e) Q := h
  refine qa B e σ H _ rs (Post.bind h fun d1 e1 v1 H1 _ rs1 _ r1 h1 => ?_)
  cases d1 with
  | bl b =>
    refine ⟨b, r1.unbl, ?_⟩
    cases b with
    | true => rw [if_pos rfl]; exact qb B e1 σ H1 _ rs1 h1
    | false => rw [if_neg Bool.false_ne_true]; exact (Post.same rs1 h1).same (.bl false)
  | _ => exact h1.elim
theorem se_or {rest : List PySem.Expr} (ha : SE RX Γ C gv K W x fa) (hb : SE RX Γ C gv K W (.BoolOp .Or (y :: rest) pos) fb) : SE RX Γ C gv K W (.BoolOp .Or (x :: y :: rest) pos) (orF fa fb) := by
  obtain ⟨ta, pa, qa⟩ := ha
  obtain ⟨tb, pb, qb⟩ := hb
  refine ⟨tOrT K ta tb, fun X ok hK => by subst hK; exact pe_orT (pa X ok rfl) (pb X ok rfl), fun B e σ H Q rs h => ?_⟩
  have h : PostE RX K W B e σ H (orF fa fb e) Q := h
  refine qa B e σ H _ rs (Post.bind h fun d1 e1 v1 H1 _ rs1 _ r1 h1 => ?_)
  cases d1 with
  | bl b =>
    refine ⟨b, truth_val r1 rfl, ?_⟩
    cases b with
    | true => rw [if_pos rfl]; exact (Post.same rs1 h1).same r1
    | false => rw [if_neg Bool.false_ne_true]; exact qb B e1 σ H1 _ rs1 h1
  | int i =>
    refine ⟨!(decide (i = 0)), truth_val r1 rfl, ?_⟩
    by_cases hi : i = 0
    · rw [if_neg (by rw [decide_eq_true hi]; exact Bool.false_ne_true)]
      have h1 : PostE RX K W B e1 σ H1 (if i = 0 then fb e1 else .ok (.int i) e1) Q := h1
      rw [if_pos hi] at h1
      exact qb B e1 σ H1 _ rs1 h1
    · rw [if_pos (by rw [decide_eq_false hi]; rfl)]
      have h1 : PostE RX K W B e1 σ H1 (if i = 0 then fb e1 else .ok (.int i) e1) Q := h1
      rw [if_neg hi] at h1
      exact (Post.same rs1 h1).same r1
  | _ => exact h1.elim
theorem se_one {o : BoolOp} (ha : SE RX Γ C gv K W x fa) : SE RX Γ C gv K W (.BoolOp o [x] pos) fa := by
  obtain ⟨ta, pa, qa⟩ := ha
  exact ⟨ta, fun X ok hK => pe_one (pa X ok hK), qa⟩
theorem SW.st {ex : PySem.Expr} {f : Env → R D} (h : SW RX Γ C gv K W ex f) : ST RX Γ C gv K W ex f := by
  obtain ⟨t, p, q⟩ := h
  exact ⟨t, fun X ok hK => (p X ok hK).pt, q⟩
theorem sw_boo {o : BoolOp} {es : List PySem.Expr} {f : Env → R D} (h : ST RX Γ C gv K W (.BoolOp o es pos) f) : SW RX Γ C gv K W (.BoolOp o es pos) f := by
  obtain ⟨t, p, q⟩ := h
  exact ⟨t, fun X ok hK => ⟨fun _ pins s σ H Q I hq => (p X ok hK).run pins s σ H Q I hq⟩, q⟩
theorem sw_and1 (ha : ST RX Γ C gv K W x fa) : SW RX Γ C gv K W (.BoolOp .And [x] pos) fa := by
  obtain ⟨t, p, q⟩ := ha
  exact ⟨t, fun X ok hK => pw_and1 (p X ok hK), q⟩
theorem sw_or1 (ha : ST RX Γ C gv K W x fa) : SW RX Γ C gv K W (.BoolOp .Or [x] pos) fa := by
  obtain ⟨t, p, q⟩ := ha
  exact ⟨t, fun X ok hK => pw_or1 (p X ok hK), q⟩
theorem sw_and {rest : List PySem.Expr} (ha : ST RX Γ C gv K W x fa) (hb : SW RX Γ C gv K W (.BoolOp .And (y :: rest) pos) fb) : SW RX Γ C gv K W (.BoolOp .And (x :: y :: rest) pos) (andF fa fb) := by
  obtain ⟨ta, pa, qa⟩ := ha
  obtain ⟨tb, pb, qb⟩ := hb
  refine ⟨tAnd ta tb, fun X ok hK => pw_and (pa X ok hK) (pb X ok hK), fun B e σ H Q rs h => ?_⟩
  refine qa B e σ H _ rs ?_
  unfold tst at h ⊢
  unfold andF at h
  cases q : fa e with
  | ok d e1 =>
    rw [q] at h
    cases d with
    | bl b =>
      intro k H1 rs1 st1 ek
      have ek : b = k := ek
      subst ek
      cases b with
      | true =>
        rw [if_pos rfl]
        exact qb B e1 σ H1 _ rs1 (Post.shift st1 h)
      | false =>
        rw [if_neg Bool.false_ne_true]
        exact h false H1 rs1 st1 rfl
    | _ => exact h.elim
  | ex ev e1 => rw [q] at h; exact h
  | no => rw [q] at h; exact h
theorem sw_or {rest : List PySem.Expr} (ha : ST RX Γ C gv K W x fa) (hb : SW RX Γ C gv K W (.BoolOp .Or (y :: rest) pos) fb) : SW RX Γ C gv K W (.BoolOp .Or (x :: y :: rest) pos) (orF fa fb) := by
  obtain ⟨ta, pa, qa⟩ := ha
  obtain ⟨tb, pb, qb⟩ := hb
  refine ⟨tOr ta tb, fun X ok hK => pw_or (pa X ok hK) (pb X ok hK), fun B e σ H Q rs h => ?_⟩
  refine qa B e σ H _ rs ?_
  unfold tst at h ⊢
  unfold orF at h
  cases q : fa e with
  | ok d e1 =>
    rw [q] at h
    cases d with
    | bl b =>
      intro k H1 rs1 st1 ek
      have ek : b = k := ek
      subst ek
      cases b with
      | true =>
        rw [if_pos rfl]
        exact h true H1 rs1 st1 rfl
      | false =>
        rw [if_neg Bool.false_ne_true]
        exact qb B e1 σ H1 _ rs1 (Post.shift st1 h)
    | int i =>
      have h : Post RX K W B e σ H eqB ((if i = 0 then fb e1 else .ok (.int i) e1).bind fun (d : D) e => R.of d.tr e) Q := h
      intro k H1 rs1 st1 ek
      have ek : (!(decide (i = 0))) = k := ek
      subst ek
      by_cases hi : i = 0
      · rw [if_neg (by rw [decide_eq_true hi]; exact Bool.false_ne_true)]
        rw [if_pos hi] at h
        exact qb B e1 σ H1 _ rs1 (Post.shift st1 h)
      · rw [if_pos (by rw [decide_eq_false hi]; rfl)]
        rw [if_neg hi] at h
        refine h true H1 rs1 st1 ?_
        show (!(decide (i = 0))) = true
        rw [decide_eq_false hi]; rfl
    | _ => exact h.elim
  | ex ev e1 => rw [q] at h; exact h
  | no => rw [q] at h; exact h
def notF (fa : Env → R D) : Env → R D := fun e => (fa e).bind fun x e => R.way x (.ok (.bl false) e) (.ok (.bl true) e)
theorem se_not (ha : SE RX Γ C gv K W x fa) : SE RX Γ C gv K W (.UnaryOp .Not x pos) (notF fa) := by
  obtain ⟨ta, pa, qa⟩ := ha
  refine ⟨tNotT K ta, fun X ok hK => by subst hK; exact pe_notT (pa X ok rfl), fun B e σ H Q rs h => ?_⟩
  have h : PostE RX K W B e σ H (notF fa e) Q := h
  refine qa B e σ H _ rs (Post.bind h fun d1 e1 v1 H1 _ rs1 _ r1 h1 => ?_)
  unfold R.way at h1
  cases k : d1.tr with
  | none => rw [k] at h1; exact h1.elim
  | some b =>
    rw [k] at h1
    refine ⟨b, truth_val r1 k, ?_⟩
    cases b with
    | true => exact (Post.same rs1 h1).same (.bl false)
    | false => exact (Post.same rs1 h1).same (.bl true)
theorem st_not (ha : ST RX Γ C gv K W x fa) : ST RX Γ C gv K W (.UnaryOp .Not x pos) (notF fa) := by
  obtain ⟨ta, pa, qa⟩ := ha
  refine ⟨tNot ta, fun X ok hK => pt_not (pa X ok hK), fun B e σ H Q rs h => ?_⟩
  refine qa B e σ H _ rs ?_
  unfold tst at h ⊢
  unfold notF at h
  cases q : fa e with
  | ok d e1 =>
    rw [q] at h
    have h : Post RX K W B e σ H eqB ((R.way d (R.ok (D.bl false) e1) (R.ok (D.bl true) e1)).bind fun (d : D) e => R.of d.tr e) Q := h
    unfold R.way at h
    show Post RX K W B e σ H eqB (R.of d.tr e1) fun c H1 => Q (!c) H1
    cases k : d.tr with
    | none => rw [k] at h; exact h.elim
    | some b =>
      rw [k] at h
      intro k H1 rs1 st1 ek
      have ek : b = k := ek
      subst ek
      cases b with
      | true => exact h false H1 rs1 st1 rfl
      | false => exact h true H1 rs1 st1 rfl
  | ex ev e1 => rw [q] at h; exact h
  | no => rw [q] at h; exact h
def iteF (fc fa fb : Env → R D) : Env → R D := fun e => (fc e).bind fun x e => R.way x (fa e) (fb e)
/-- a test, then one of two ways -/
theorem Post.way {a b : Type} {Rel : (Addr → Prop) → Hp → a → b → Prop} {B : Addr → Prop} {e : Env} {σ : L2.St} {H : Hp} {ga gb : Env → R a} {Q : b → Hp → Prop} {Q' : Bool → Hp → Prop} (h : Post RX K W B e σ H Rel ((fc e).bind fun x e => R.way x (ga e) (gb e)) Q)
    (k : ∀ c e1 H1, RSt K B H1 e1 σ → Stp H e σ H1 e1 σ → Post RX K W B e1 σ H1 Rel (if c = true then ga e1 else gb e1) Q → Q' c H1) : Post RX K W B e σ H eqB (tst fc e) Q' := by
  unfold tst
  cases q : fc e with
  | ok d e1 =>
    rw [q] at h
    have h : Post RX K W B e σ H Rel (R.way d (ga e1) (gb e1)) Q := h
    unfold R.way at h
    show Post RX K W B e σ H eqB (R.of d.tr e1) Q'
    cases z : d.tr with
    | none => rw [z] at h; exact h.elim
    | some b =>
      rw [z] at h
      intro c H1 rs1 st1 ek
      have ek : b = c := ek
      subst ek
      refine k b e1 H1 rs1 st1 ?_
      cases b with
      | true => rw [if_pos rfl]; exact Post.shift st1 h
      | false => rw [if_neg Bool.false_ne_true]; exact Post.shift st1 h
  | ex ev e1 => rw [q] at h; exact h
  | no => rw [q] at h; exact h
theorem se_ite (hc : ST RX Γ C gv K W x fc) (ha : SE RX Γ C gv K W y fa) (hb : SE RX Γ C gv K W z fb) : SE RX Γ C gv K W (.IfExp x y z pos) (iteF fc fa fb) := by
  obtain ⟨tc, pc, qc⟩ := hc
  obtain ⟨ta, pa, qa⟩ := ha
  obtain ⟨tb, pb, qb⟩ := hb
  refine ⟨tIf tc ta tb, fun X ok hK => pe_ifExp (pc X ok hK) (pa X ok hK) (pb X ok hK), fun B e σ H Q rs h => ?_⟩
  refine qc B e σ H _ rs (Post.way (ga := fa) (gb := fb) h fun c e1 H1 rs1 st1 h1 => ?_)
  cases c with
  | true => rw [if_pos rfl] at h1 ⊢; exact qa B e1 σ H1 _ rs1 h1
  | false => rw [if_neg Bool.false_ne_true] at h1 ⊢; exact qb B e1 σ H1 _ rs1 h1
/-! ### subscripts, slices -/
theorem plain_ix (h : isSl y = false) : PlainIx y := by
  intro o i
  cases y <;> first | rfl | cases h
theorem se_ix (hs : isSl y = false) (ha : SE RX Γ C gv K W x fa) (hb : SE RX Γ C gv K W y fb) : SE RX Γ C gv K W (.Subscript x y pos) fun e => (fa e).bind fun a e => (fb e).bind fun b e => R.of (ixop a b) e := by
  obtain ⟨ta, pa, qa⟩ := ha
  obtain ⟨tb, pb, qb⟩ := hb
  refine ⟨tOp (rIxs K) ta tb, fun X ok hK => by subst hK; exact pe_ix (ixs_ok ok.hu) (pa X ok rfl) (pb X ok rfl) (plain_ix hs), fun B e σ H Q rs h => ?_⟩
  refine qa B e σ H _ rs (Post.bind h fun d1 e1 v1 H1 _ rs1 _ r1 h1 => ?_)
  refine qb B e1 σ H1 _ rs1 (Post.bind h1 fun d2 e2 v2 H2 _ rs2 st2 r2 h2 => ?_)
  obtain ⟨d, hd, q⟩ := Post.vok rs2 h2
  exact ix_val (rs1.keep st2 r1) r2 hd q
theorem getO_own {e : Env} {i : Nat} {ds : List D} (h : getO e i = some ds) : e[i]? = some (some (Sl.own ds)) := by
  unfold getO at h
  split at h
  · rename_i q
    cases h
    exact q
  · cases h
theorem getM_own {e : Env} {i : Nat} {ds : List D} (h : getM e i = some ds) : e[i]? = some (some (Sl.dic ds)) := by
  unfold getM at h
  split at h
  · rename_i q
    cases h
    exact q
  · cases h
theorem se_oix {i : Nat} {n : Str} {p : Pos} (h1 : Γ.N[i]? = some n) (h2 : visB Γ n = true) (hs : isSl y = false) (hb : SE RX Γ C gv K W y fb) : SE RX Γ C gv K W (.Subscript (.Name n p) y pos) fun e => match ioOk (some i) e with
    | true => (fb e).bind fun b e => match getO e i with
      | some ds => R.of (ixop (.lst ds) b) e
      | none => .no
    | false => .no := by
  obtain ⟨tb, pb, qb⟩ := hb
  refine ⟨tOp (rIxs K) (tVar i) tb, fun X ok hK => by subst hK; exact pe_ix (ixs_ok ok.hu) (pe_slot ok h1 h2) (pb X ok rfl) (plain_ix hs), fun B e σ H Q rs h => ?_⟩
  cases z : ioOk (some i) e with
  | false =>
    simp only [z] at h
    exact h.elim
  | true =>
    simp only [z] at h
    have z : (getO e i).isSome = true := z
    cases k0 : getO e i with
    | none => rw [k0] at z; cases z
    | some ds0 =>
      obtain ⟨a, vs0, w0, _⟩ := rs.ownL i ds0 (getO_own k0)
      refine ⟨.ref a, w0, ?_⟩
      refine qb B e σ H _ rs (Post.bind h fun d2 e2 v2 H2 _ rs2 st2 r2 h2 => ?_)
      cases k : getO e2 i with
      | none => rw [k] at h2; exact h2.elim
      | some ds =>
        rw [k] at h2
        obtain ⟨d, hd, q⟩ := Post.vok rs2 h2
        obtain ⟨a', vs, w1, w2, w3, w4⟩ := rs2.ownL i ds (getO_own k)
        rw [w0] at w1
        cases w1
        cases d2 with
        | int j =>
          obtain ⟨v, e, r⟩ := at_get w4 (show at_ ds j = some d from hd)
          exact .inl ⟨a, vs, j, v, rfl, r2.unint, .inl (.inl w3), e, q.same r⟩
        | _ => cases hd
theorem sp_none : SP1 RX Γ C gv K W none fun e => (R.ok D.non e).bind fun l e => R.of (partR true l) e := ⟨tNoPart, fun X ok hK => po_none, fun B e σ H Q rs h => h none H rs .refl rfl⟩
theorem sp_some (ha : SE RX Γ C gv K W x fa) : SP1 RX Γ C gv K W (some x) fun e => (fa e).bind fun d e => R.of (partR false d) e := by
  obtain ⟨ta, pa, qa⟩ := ha
  refine ⟨tPart ta, fun X ok hK => po_some (pa X ok hK), fun B e σ H Q rs h => ?_⟩
  refine qa B e σ H _ rs (Post.bind h fun d1 e1 v1 H1 _ rs1 _ r1 h1 => ?_)
  cases d1 with
  | int i => exact ⟨i, r1.unint, h1 (some i) H1 rs1 .refl rfl⟩
  | _ => exact h1.elim
theorem se_sl {lo hi : Option PySem.Expr} {p2 : Pos} {fl fh : Env → R (Option Int)} (ha : SE RX Γ C gv K W x fa) (hl : SP1 RX Γ C gv K W lo fl) (hh : SP1 RX Γ C gv K W hi fh) : SE RX Γ C gv K W (.Subscript x (.Slice lo hi none p2) pos) fun e => (fa e).bind fun x e => (fl e).bind fun l e => (fh e).bind fun h e => R.of (slop x l h) e := by
  obtain ⟨ta, pa, qa⟩ := ha
  obtain ⟨tl, pl, ql⟩ := hl
  obtain ⟨th, ph, qh⟩ := hh
  refine ⟨tSl (rSls K) ta tl th, fun X ok hK => by subst hK; exact pe_slice sls_ok (pa X ok rfl) (pl X ok rfl) (ph X ok rfl), fun B e σ H Q rs h => ?_⟩
  refine qa B e σ H _ rs (Post.bind h fun d1 e1 v1 H1 _ rs1 _ r1 h1 => ?_)
  refine ql B e1 σ H1 _ rs1 (Post.bind h1 fun d2 e2 o2 H2 _ rs2 st2 r2 h2 => ?_)
  refine qh B e2 σ H2 _ rs2 (Post.bind h2 fun d3 e3 o3 H3 _ rs3 st3 r3 h3 => ?_)
  subst r2 r3
  obtain ⟨d, hd, q⟩ := Post.vok rs3 h3
  exact sl_val (fun a => rs3.al a) (rs2.keep st3 (rs1.keep st2 r1)) hd q
/-! ### rows, calls -/
variable {es : List PySem.Expr} {fs : Env → R (List D)}
theorem sl_nil : SL RX Γ C gv K W [] fun e => .ok [] e := ⟨tNil, fun X ok hK => pa_nil, fun B e σ H Q rs h => h [] H rs .refl .nil⟩
theorem sl_cons (hs : isStar x = false) (ha : SE RX Γ C gv K W x fa) (hr : SL RX Γ C gv K W es fs) : SL RX Γ C gv K W (x :: es) fun e => (fa e).bind fun x e => (fs e).bind fun xs e => .ok (x :: xs) e := by
  obtain ⟨ta, pa, qa⟩ := ha
  obtain ⟨tr, pr, qr⟩ := hr
  refine ⟨tCons ta tr, fun X ok hK => pa_cons (pa X ok hK) (pr X ok hK) (star_cons hs), fun B e σ H Q rs h => ?_⟩
  refine qa B e σ H _ rs (Post.bind h fun d1 e1 v1 H1 _ rs1 _ r1 h1 => ?_)
  refine qr B e1 σ H1 _ rs1 (Post.bind h1 fun ds e2 vs H2 _ rs2 st2 r2 h2 => ?_)
  exact h2 (v1 :: vs) H2 rs2 .refl (.cons (rs1.keep st2 r1) r2)
end
section
variable {K : PySem.W.Frag} {B : Addr → Prop} {e : Env} {σ : L2.St} {H H' : Hp}
theorem vals_get {ds : List D} {i : Nat} : (ds.map Sl.val |>.map some)[i]? = (ds[i]?).map fun d => some (Sl.val d) := by
  rw [List.getElem?_map, List.getElem?_map]
  cases ds[i]? <;> rfl
theorem no_own {ds : List D} {vs : List V} {a : Addr} : ¬ OwnAt ((ds.map Sl.val).map some) (vs.map some) a := fun ⟨i, _, es, h, _⟩ => by
  rw [vals_get] at h
  cases q : ds[i]? with
  | none => rw [q] at h; cases h
  | some d => rw [q] at h; cases h
/-- arguments that are plain values -/
theorem RSt.args (rs : RSt K B H e σ) {ds : List D} {vs : List V} (r : Rps K (Of B e σ) H ds vs) : RSt K (Of B e σ) H ((ds.map Sl.val).map some) (vs.map some) where
  len := by simp [r.len]
  val := fun i d h => by
    rw [vals_get] at h
    cases q : ds[i]? with
    | none => rw [q] at h; cases h
    | some d' =>
      rw [q] at h
      cases h
      obtain ⟨v, w1, w2⟩ := r.get q
      exact ⟨v, by rw [List.getElem?_map, w1]; rfl, Rp.mono (S := fun _ => False) ⟨fun _ _ q _ _ => q, fun _ z => z.elim⟩ (fun _ z => z.elim) (fun a z => .inl (z.elim id fun w => absurd w no_own)) w2⟩
  own := fun i _ es h => by
    rw [vals_get] at h
    cases q : ds[i]? with
    | none => rw [q] at h; cases h
    | some d => rw [q] at h; cases h
  inj := fun i j _ _ es fs a h => by
    rw [vals_get] at h
    cases q : ds[i]? with
    | none => rw [q] at h; cases h
    | some d => rw [q] at h; cases h
  bnd := fun a h => rs.ofs h
  tb := rs.tb
theorem ret_vals {ds : List D} {cs : List D} : retArgs (ds.map Sl.val) cs = ds.map Sl.val := by
  cases ds <;> rfl
/-- behind a call with plain arguments -/
theorem RSt.called (rs : RSt K B H e σ) {ds : List D} {vs : List V} (tb' : LamX.Tabs TabT.T H') (st : Stp H ((ds.map Sl.val).map some) (vs.map some) H' ((ds.map Sl.val).map some) (vs.map some)) : RSt K B H' e σ ∧ Stp H e σ H' e σ := by
  have fr : Fr (fun _ => False) H H' := ⟨fun a o h tt _ => st.fr a o h tt no_own, fun _ z => z.elim⟩
  have mono : ∀ {d' : D} {v' : V}, Rp K (Of B e σ) H d' v' → Rp K (Of B e σ) H' d' v' := fun {d' v'} q => Rp.mono fr (fun _ z => z.elim) (fun b q => .inl q) q
  have monos : ∀ {n : Bool} {es' : List D} {us' : List V}, Rpo K (Of B e σ) H n es' us' → Rpo K (Of B e σ) H' n es' us' := fun {n es' us'} q => Rpo.mono fr (fun _ z => z.elim) (fun b q => .inl q) q
  refine ⟨⟨rs.len, fun i d h => ?_, fun i _ es h => ?_, rs.inj, fun a h => ?_, tb'⟩, ⟨fun a o h tt _ => fr.fr a o h tt fun z => z, st.al, fun a h => .inl h⟩⟩
  · obtain ⟨v, w1, w2⟩ := rs.val i d h
    exact ⟨v, w1, mono w2⟩
  · obtain ⟨a, us, w1, w2, w3, w4⟩ := rs.own i es h
    exact ⟨a, us, w1, w2, w3.fr fr fun z => z, monos w4⟩
  · obtain ⟨us, w, w'⟩ := rs.bnd a h
    exact ⟨us, fr.fr _ _ w w'.nt fun z => z, w'⟩
/-- arguments, the first of them an own list handed over -/
def But (B : Addr → Prop) (a : Addr) : Addr → Prop := fun b => B b ∧ b ≠ a
theorem io_own {cs : List D} {ds : List D} {a : Addr} {vs : List V} {b : Addr} : OwnAt ((Sl.own cs :: ds.map Sl.val).map some) ((V.ref a :: vs).map some) b ↔ b = a := by
  constructor
  · rintro ⟨i, m, es, h1, h2⟩
    cases i with
    | zero => simp at h2; exact h2.symm
    | succ i =>
      have h1 : (ds.map Sl.val |>.map some)[i]? = some (some (Sl.ow m es)) := by simpa using h1
      rw [vals_get] at h1
      cases q : ds[i]? with
      | none => rw [q] at h1; cases h1
      | some d => rw [q] at h1; cases h1
  · rintro rfl
    exact ⟨0, false, cs, rfl, rfl⟩
theorem RSt.argsIo (rs : RSt K B H e σ) {i : Nat} {cs : List D} {a : Addr} (ho : e[i]? = some (some (Sl.own cs))) (ha : σ[i]? = some (some (V.ref a))) {ds : List D} {vs : List V} (r : Rps K (Of B e σ) H ds vs) :
    RSt K (But (Of B e σ) a) H ((Sl.own cs :: ds.map Sl.val).map some) ((V.ref a :: vs).map some) := by
  have back : ∀ b, Of (But (Of B e σ) a) ((Sl.own cs :: ds.map Sl.val).map some) ((V.ref a :: vs).map some) b → Of B e σ b := fun b h => by
    rcases h with h | h
    · exact h.1
    · rw [io_own.mp h]
      exact .inr ⟨i, false, cs, ho, ha⟩
  have mono : ∀ {d' : D} {v' : V}, Rp K (Of B e σ) H d' v' → Rp K (Of (But (Of B e σ) a) ((Sl.own cs :: ds.map Sl.val).map some) ((V.ref a :: vs).map some)) H d' v' := fun {d' v'} q =>
    Rp.mono (S := fun _ => False) ⟨fun _ _ q _ _ => q, fun _ z => z.elim⟩ (fun _ z => z.elim) (fun b q => .inl (back b q)) q
  have monos : ∀ {n : Bool} {es' : List D} {us' : List V}, Rpo K (Of B e σ) H n es' us' → Rpo K (Of (But (Of B e σ) a) ((Sl.own cs :: ds.map Sl.val).map some) ((V.ref a :: vs).map some)) H n es' us' := fun {n es' us'} q =>
    Rpo.mono (S := fun _ => False) ⟨fun _ _ q _ _ => q, fun _ z => z.elim⟩ (fun _ z => z.elim) (fun b q => .inl (back b q)) q
  obtain ⟨a', us, w1, w2, w3, w4⟩ := rs.own i cs ho
  rw [ha] at w1
  cases w1
  refine ⟨by simp [r.len], fun j d h => ?_, fun j m es h => ?_, fun j k _ _ es fs b h1 h2 h3 h4 => ?_, fun b h => rs.ofs h.1, rs.tb⟩
  · cases j with
    | zero => simp at h
    | succ j =>
      have h1 : (ds.map Sl.val |>.map some)[j]? = some (some (Sl.val d)) := by simpa using h
      rw [vals_get] at h1
      cases q : ds[j]? with
      | none => rw [q] at h1; cases h1
      | some d' =>
        rw [q] at h1
        cases h1
        obtain ⟨v, z1, z2⟩ := r.get q
        refine ⟨v, ?_, mono z2⟩
        simp [z1]
  · cases j with
    | zero =>
      have e1 : m = false ∧ cs = es := by
        have : false = m ∧ cs = es := by simpa using h
        exact ⟨this.1.symm, this.2⟩
      obtain ⟨rfl, rfl⟩ := e1
      exact ⟨a, us, rfl, fun z => z.2 rfl, w3, monos w4⟩
    | succ j =>
      have h1 : (ds.map Sl.val |>.map some)[j]? = some (some (Sl.ow m es)) := by simpa using h
      rw [vals_get] at h1
      cases q : ds[j]? with
      | none => rw [q] at h1; cases h1
      | some d => rw [q] at h1; cases h1
  · have z : ∀ {j : Nat} {m : Bool} {es : List D}, ((Sl.own cs :: ds.map Sl.val).map some)[j]? = some (some (Sl.ow m es)) → j = 0 := fun {j m es} h => by
      cases j with
      | zero => rfl
      | succ j =>
        have h1 : (ds.map Sl.val |>.map some)[j]? = some (some (Sl.ow m es)) := by simpa using h
        rw [vals_get] at h1
        cases q : ds[j]? with
        | none => rw [q] at h1; cases h1
        | some d => rw [q] at h1; cases h1
    rw [z h1, z h2]
/-- behind a call that was handed an own list -/
theorem RSt.calledIo (rs : RSt K B H e σ) {i : Nat} {cs cs' : List D} {a : Addr} (ho : e[i]? = some (some (Sl.own cs))) (ha : σ[i]? = some (some (V.ref a))) {ds : List D} {vs : List V}
    (r' : RSt K (But (Of B e σ) a) H' ((Sl.own cs' :: ds.map Sl.val).map some) ((V.ref a :: vs).map some))
    (st : Stp H ((Sl.own cs :: ds.map Sl.val).map some) ((V.ref a :: vs).map some) H' ((Sl.own cs' :: ds.map Sl.val).map some) ((V.ref a :: vs).map some)) :
    RSt K B H' (e.set i (some (Sl.own cs'))) σ ∧ Stp H e σ H' (e.set i (some (Sl.own cs'))) σ ∧ ∀ {d : D} {v : V}, Rp K (Of (But (Of B e σ) a) ((Sl.own cs' :: ds.map Sl.val).map some) ((V.ref a :: vs).map some)) H' d v → Rp K (Of B (e.set i (some (Sl.own cs'))) σ) H' d v := by
  have hi : i < e.length := (List.getElem?_eq_some_iff.mp ho).1
  have own' : ∀ b, OwnAt (e.set i (some (Sl.own cs'))) σ b → OwnAt e σ b := fun b ⟨j, n, fs, q1, q2⟩ => by
    rcases own_set_own q1 with ⟨rfl, rfl, rfl, _⟩ | ⟨_, q⟩
    · exact ⟨j, _, cs, ho, q2⟩
    · exact ⟨j, n, fs, q, q2⟩
  have fr : Fr (fun b => b = a) H H' := ⟨fun b o h tt n => st.fr b o h tt fun z => n (io_own.mp z), fun b z => by
    rw [z]
    exact rs.ls ⟨i, false, cs, ho, ha⟩⟩
  have oa : ∀ b, b = a → Of B e σ b := fun b z => .inr ⟨i, false, cs, ho, by rw [z]; exact ha⟩
  have mono : ∀ {d' : D} {v' : V}, Rp K (Of B e σ) H d' v' → Rp K (Of B (e.set i (some (Sl.own cs'))) σ) H' d' v' := fun {d' v'} q =>
    Rp.mono fr oa (fun b q => .inl (q.elim .inl fun z => .inr (own' b z))) q
  have monos : ∀ {n : Bool} {es' : List D} {us' : List V}, Rpo K (Of B e σ) H n es' us' → Rpo K (Of B (e.set i (some (Sl.own cs'))) σ) H' n es' us' := fun {n es' us'} q =>
    Rpo.mono fr oa (fun b q => .inl (q.elim .inl fun z => .inr (own' b z))) q
  have into : ∀ b, Of B (e.set i (some (Sl.own cs'))) σ b → Of (But (Of B e σ) a) ((Sl.own cs' :: ds.map Sl.val).map some) ((V.ref a :: vs).map some) b := fun b h => by
    by_cases hb : b = a
    · exact .inr (io_own.mpr hb)
    · exact .inl ⟨h.elim .inl fun z => .inr (own' b z), hb⟩
  have res : ∀ {d : D} {v : V}, Rp K (Of (But (Of B e σ) a) ((Sl.own cs' :: ds.map Sl.val).map some) ((V.ref a :: vs).map some)) H' d v → Rp K (Of B (e.set i (some (Sl.own cs'))) σ) H' d v := fun {d v} q =>
    Rp.mono (S := fun _ => False) ⟨fun _ _ q _ _ => q, fun _ z => z.elim⟩ (fun _ z => z.elim) (fun b q => .inl (into b q)) q
  have ress : ∀ {n : Bool} {d : List D} {v : List V}, Rpo K (Of (But (Of B e σ) a) ((Sl.own cs' :: ds.map Sl.val).map some) ((V.ref a :: vs).map some)) H' n d v → Rpo K (Of B (e.set i (some (Sl.own cs'))) σ) H' n d v := fun {n d v} q =>
    Rpo.mono (S := fun _ => False) ⟨fun _ _ q _ _ => q, fun _ z => z.elim⟩ (fun _ z => z.elim) (fun b q => .inl (into b q)) q
  obtain ⟨a0, us0, y1, y2, y3, y4⟩ := rs.own i cs ho
  rw [ha] at y1
  cases y1
  obtain ⟨a1, us, x1, x2, x3, x4⟩ := r'.own 0 cs' rfl
  have x1 : V.ref a = V.ref a1 := by simpa using x1
  cases x1
  refine ⟨⟨by rw [List.length_set]; exact rs.len, fun j d q => ?_, fun j _ fs q => ?_, fun j k _ _ fs gs b q1 q2 q3 q4 => ?_, fun b q => ?_, r'.tb⟩, ⟨fun b o h tt n => ?_, st.al, fun b h => .inl (own' b h)⟩, res⟩
  · by_cases hj : i = j
    · subst hj
      rw [List.getElem?_set_self hi] at q
      cases q
    · rw [List.getElem?_set_ne hj] at q
      obtain ⟨v, w1, w2⟩ := rs.val j d q
      exact ⟨v, w1, mono w2⟩
  · rcases own_set_own q with ⟨rfl, rfl, rfl, _⟩ | ⟨hj, q'⟩
    · exact ⟨a, us, ha, y2, x3, ress (n := false) x4⟩
    · obtain ⟨b, ws, w1, w2, w3, w4⟩ := rs.own j fs q'
      have hb : b ≠ a := fun z => hj (rs.inj j i fs cs a q' ho (by rw [w1, z]) ha)
      exact ⟨b, ws, w1, w2, w3.fr fr hb, monos w4⟩
  · have back : ∀ {j : Nat} {n : Bool} {fs : List D}, (e.set i (some (Sl.own cs')))[j]? = some (some (Sl.ow n fs)) → ∃ gs, e[j]? = some (some (Sl.ow n gs)) := fun {j n fs} q => by
      rcases own_set_own q with ⟨rfl, rfl, rfl, _⟩ | ⟨_, q⟩
      · exact ⟨_, ho⟩
      · exact ⟨_, q⟩
    obtain ⟨_, z1⟩ := back q1
    obtain ⟨_, z2⟩ := back q2
    exact rs.inj j k _ _ b z1 z2 q3 q4
  · by_cases hb : b = a
    · rw [hb]; exact x3.at
    · obtain ⟨ws, w, w'⟩ := rs.bnd b q
      exact ⟨ws, fr.fr _ _ w w'.nt hb, w'⟩
  · refine fr.fr b o h tt fun z => n ?_
    rw [z]
    exact ⟨i, false, cs, ho, ha⟩
end
end Ev
set_option Elab.async false
set_option linter.all false
set_option maxRecDepth 100000
set_option maxHeartbeats 4000000
set_option autoImplicit false
/-! Ev4b: forms of more than one call: the number of different ones. -/
namespace Ev
open PySem PySem.Spec PyProof.Rows L2
section
variable {K : PySem.W.Frag} {X : Cx}
theorem once_mem {α : Type} [DecidableEq α] {y : α} : ∀ {l : List α}, y ∈ onceL l ↔ y ∈ l
  | [] => Iff.rfl
  | x :: l => by
    unfold onceL
    split
    · rename_i h
      rw [once_mem, List.mem_cons]
      exact ⟨.inr, fun z => z.elim (fun e => e ▸ h) id⟩
    · rw [List.mem_cons, once_mem, List.mem_cons]
theorem once_nd {α : Type} [DecidableEq α] : ∀ l : List α, (onceL l).Nodup
  | [] => List.nodup_nil
  | x :: l => by
    unfold onceL
    split
    · exact once_nd l
    · rename_i h
      exact List.nodup_cons.mpr ⟨fun z => h (once_mem.mp z), once_nd l⟩
/-- as many entries as there are different numbers -/
theorem same_len {α : Type} [DecidableEq α] : ∀ {l m : List α}, l.Nodup → (∀ x ∈ l, x ∈ m) → l.length ≤ m.length
  | [], m, _, _ => Nat.zero_le _
  | x :: l, m, h, k => by
    have hx := k x List.mem_cons_self
    obtain ⟨h1, h2⟩ := List.nodup_cons.mp h
    have := same_len (l := l) (m := m.erase x) h2 fun y hy => (List.mem_erase_of_ne (fun e => h1 (by rw [← e]; exact hy))).mpr (k y (List.mem_cons_of_mem _ hy))
    rw [List.length_erase_of_mem hx] at this
    have : 0 < m.length := List.length_pos_of_mem hx
    rw [List.length_cons]
    omega
theorem firstMet_nd (val : Nat → Int) : ∀ i, (PyProof.Rows.firstMet val i).Nodup
  | 0 => List.nodup_nil
  | i + 1 => by
    rw [PyProof.Rows.firstMet_succ]
    unfold step_dedup
    have ih := firstMet_nd val i
    split
    · exact ih
    · rename_i h
      refine List.nodup_append.mpr ⟨ih, by simp, fun a ha b hb e => h ?_⟩
      rw [List.mem_singleton.mp hb] at e
      rw [List.any_eq_true]
      exact ⟨a, ha, by rw [e]; simp⟩
theorem firstMet_once (ns : List Int) : (PyProof.Rows.firstMet (fun i => ns.getD i 0) ns.length).length = (onceL ns).length := by
  have e1 : (List.range ns.length).map (fun i => ns.getD i 0) = ns := by
    refine List.ext_getElem (by simp) fun i h1 h2 => ?_
    simp only [List.getElem_map, List.getElem_range, List.getD_eq_getElem?_getD]
    rw [List.getElem?_eq_getElem h2]
    rfl
  have e2 : ∀ k, k ∈ PyProof.Rows.firstMet (fun i => ns.getD i 0) ns.length ↔ k ∈ ns := fun k => by
    have := PyProof.Rows.firstMet_any (fun i => ns.getD i 0) ns.length k
    rw [e1] at this
    constructor
    · intro h
      have h1 : (PyProof.Rows.firstMet (fun i => ns.getD i 0) ns.length).any (· == k) = true := List.any_eq_true.mpr ⟨k, h, by simp⟩
      rw [this, List.any_eq_true] at h1
      obtain ⟨x, hx, e⟩ := h1
      rw [beq_iff_eq] at e
      exact e ▸ hx
    · intro h
      have h1 : ns.any (· == k) = true := List.any_eq_true.mpr ⟨k, h, by simp⟩
      rw [← this, List.any_eq_true] at h1
      obtain ⟨x, hx, e⟩ := h1
      rw [beq_iff_eq] at e
      exact e ▸ hx
  exact Nat.le_antisymm (same_len (firstMet_nd _ _) fun x hx => once_mem.mpr ((e2 x).mp hx)) (same_len (once_nd ns) fun x hx => (e2 x).mpr (once_mem.mp hx))
def tLset (K : PySem.W.Frag) (ta : TE) : TE := fun σ H Q => ta σ H fun x H1 => ∃ (l : Addr) (ns : List Int), x = .ref l ∧ (SqL K H1 l (ns.map V.int) ∨ SqT K H1 l (ns.map V.int)) ∧ ns.length ≤ 900 ∧ Q (.int ((onceL ns).length : Nat)) H1
theorem pe_lset {a : PySem.Expr} {ta : TE} {p p2 q pos : Pos} (hg : Gl X "len") (hm : X.mg "len" = none) (hg2 : Gl X "set") (hm2 : X.mg "set" = none) (ha : PE X a ta) (hc : X.calm = true)
    (na : starEach [a] X.env = (false, eval a X.env) :: starEach [] X.env) : PE X (.Call (.Name "len" p) [.Call (.Name "set" p2) [a] [] q] [] pos) (tLset X.K ta) := by
  refine ⟨fun pins s σ H Q I h => ?_⟩
  refine Call_ (ld_blt I hg hm boot_len ?_)
  refine PyProof.Rows.callWith_builtin1 (PyProof.Rows.args_cons ?_ rfl) rfl rfl
  refine Call_ (ld_blt I hg2 hm2 boot_set ?_)
  refine PyProof.Rows.callWith_type1 (PyProof.Rows.args_cons (thn (ha.run pins s σ H _ I h) fun v s1 ⟨x, H1, I1, r1, q1⟩ => PyProof.Rows.args_nil ?_) na) na rfl
  obtain ⟨l, ns, rfl, hq, hl, q1⟩ := q1
  cases r1
  rcases hq with hq | hq
  · obtain ⟨its, r, pl, hz⟩ := I1.list hq
    have hlen : its.toArray.size = ns.length := by rw [List.size_toArray, ← r.length, List.length_map]
    refine call_set_list (I1.ok.hd hc) pl.isList (by simpa using RZ.intsAre_vals r) (by rw [hlen]; unfold scanBound; omega) fun h' tk hS hk => ?_
    refine PyProof.Rows.args_nil ?_
    rw [hlen] at hS
    have e0 := firstMet_once ns
    have e9 : (onceL ns).length ≤ ns.length := same_len (once_nd ns) fun x hx => once_mem.mp hx
    obtain ⟨o, es, ep, t, ho, hex, hd, _, _, _, hf, hn⟩ := hS
    have I2 : Inv X pins σ H1 { s1 with heap := h', toks := tk } := I1.kept fun b o e => hk b o (Heap.lt_size e) e
    exact call_len_set ho hex hd hf (by rw [hn] <;> omega) ⟨.int (onceL ns).length, H1, I2.tok _, ⟨_, by rw [hn, e0]⟩, q1⟩
  · obtain ⟨its, r, pl, hz⟩ := I1.tuple hq
    have hi : IntsAre its.toArray.toList ns := by simpa using RZ.intsAre_vals r
    refine call_set_tupI ns (I1.ok.hd hc) (show s1.heap.IsTuple l its.toArray from pl) hi (by unfold scanBound; omega) fun h' tk c R1 hcn k => ?_
    refine PyProof.Rows.args_nil ?_
    obtain ⟨o, es, ep, t, ho, hex, hd, hgd, nd, hme, hb, hf, hn, _⟩ := R1
    have I2 : Inv X pins σ H1 { s1 with heap := h', toks := tk } := I1.kept fun b o e => k b o e
    have e9 : (onceL ns).length ≤ ns.length := same_len (once_nd ns) fun x hx => once_mem.mp hx
    have e1 : es.size = (onceL ns).length := by
      have q1 := same_len nd fun k hk => once_mem.mpr (of_decide_eq_true ((hme k).mpr hk))
      have q2 := same_len (once_nd ns) fun k hk => (hme k).mp (decide_eq_true (once_mem.mp hk))
      have q3 : es.toList.length = es.size := Array.length_toList
      rw [List.length_map] at q1 q2
      omega
    exact call_len_set ho hex hd hf (by rw [e1] <;> omega) ⟨.int (onceL ns).length, H1, I2.tok _, ⟨_, by rw [e1]⟩, q1⟩
end
end Ev
set_option Elab.async false
set_option linter.all false
set_option maxRecDepth 100000
set_option maxHeartbeats 4000000
set_option autoImplicit false
/-! Ev4e: rows put into a set, as many as there are, few of them different. -/
namespace Ev
open PySem PySem.Spec PyProof.Rows L2
theorem le_of_sub {α : Type} [DecidableEq α] : ∀ {l m : List α}, l.Nodup → (∀ x ∈ l, x ∈ m) → l.length ≤ m.length
  | [], _, _, _ => Nat.zero_le _
  | x :: l, m, nd, h => by
    obtain ⟨h1, h2⟩ := List.nodup_cons.mp nd
    have hx := h x List.mem_cons_self
    have := le_of_sub (m := m.erase x) h2 fun y hy => (List.mem_erase_of_ne fun e => h1 (by rw [← e]; exact hy)).mpr (h y (List.mem_cons_of_mem _ hy))
    rw [List.length_erase_of_mem hx] at this
    have := List.length_pos_of_mem hx
    rw [List.length_cons]
    omega
/-- what stands in the set are some of the different rows -/
theorem few_in {L ks : List (Addr × List Int)} {U : List (List Int)} (nd : (L.map (·.2)).Nodup) (sub : ∀ p ∈ L, p ∈ ks) (hU : ∀ p ∈ ks, p.2 ∈ U) : L.length ≤ U.length := by
  have := le_of_sub (m := U) nd fun r hr => by
    obtain ⟨p, hp, e⟩ := List.mem_map.mp hr
    rw [← e]
    exact hU p (sub p hp)
  rwa [List.length_map] at this
section
variable {P : Program} {w : World} {A : Around} {s : Shared}
theorem set_loop {I S : Addr} {fp wr : List Addr} {G : Array GenState → Array GenState → Prop} {n : Nat} {Pv : Nat → Value → Prop} {St : Nat → Shared → Prop} {R : Result → Shared → Prop} (W : WalksS P w A.in1 I fp wr G n Pv St) (out : S ∉ fp)
    {ks : List (Addr × List Int)} {U : List (List Int)} (hn : n = ks.length) (hU : ∀ p ∈ ks, p.2 ∈ U) (few : U.length + 1 < 64) (val : ∀ i v, Pv i v → ∃ p, ks[i]? = some p ∧ v = .ref p.1) {h0 : Heap} (rows : ∀ p ∈ ks, IsT P w h0 p.2 p.1) (z1 : h0.get? S = none) (z2 : ∀ b ∈ wr, h0.get? b = none) (un : A.in1.units < cLine)
    (fin : ∀ s1 s' L es ep t, Moved (S :: wr) G s1 s' → SetTR P w s'.heap S L es ep t → Got ks n L → (∀ b o, h0.get? b = some o → s'.heap.get? b = some o) → s1 = s → R (.ok (.ret .none)) s') :
    ∀ (m i : Nat) (s1 : Shared), i + m = n → St i s1 → (∀ s', Moved (S :: wr) G s1 s' → Moved (S :: wr) G s s') → (∀ b o, h0.get? b = some o → s1.heap.get? b = some o) → (∃ L es ep t, SetTR P w s1.heap S L es ep t ∧ Got ks i L) → codeAny (model P w) A (.builtin "set.update.loop" ⟨[.ref S, .ref I], []⟩) R s1 := by
  have nw : S ∉ wr := fun h => out (W.sub _ h)
  have up : ∀ b ∈ wr, b ∈ S :: wr := fun b hb => List.mem_cons_of_mem _ hb
  intro m
  induction m with
  | zero =>
    intro i s1 e st mv old ⟨L, es, ep, t, T, g⟩
    have e : i = n := e
    subst e
    refine codeAny_builtin F.entry_set_update_loop ?_
    rw [Around.under_plainId F.plain_set_update_loop _]
    refine wpAny_bind (W.done s1 _ _ st fun s2 m2 => ?_)
    have old2 : ∀ b o, h0.get? b = some o → s2.heap.get? b = some o := fun b o q => m2.heap b o (fun y => by rw [z2 b y] at q; cases q) (old b o q)
    refine wpAny_pure (fin s s2 L es ep t (mv s2 (m2.mono up)) (T.keep (fun o q => m2.heap S o nw q) fun p hp => isT_keep (rows p (List.mem_of_mem_take (g.sub p hp))) old2) g old2 rfl)
  | succ m ih =>
    intro i s1 e st mv old ⟨L, es, ep, t, T, g⟩
    refine codeAny_builtin F.entry_set_update_loop ?_
    rw [Around.under_plainId F.plain_set_update_loop _]
    refine wpAny_bind (W.item i s1 _ _ (by omega) st fun v s2 hv st2 m2 => ?_)
    obtain ⟨p, hp, rfl⟩ := val i v hv
    have old2 : ∀ b o, h0.get? b = some o → s2.heap.get? b = some o := fun b o q => m2.heap b o (fun y => by rw [z2 b y] at q; cases q) (old b o q)
    have sub : ∀ p ∈ L, p ∈ ks := fun p hp => List.mem_of_mem_take (g.sub p hp)
    have T2 : SetTR P w s2.heap S L es ep t := T.keep (fun o q => m2.heap S o nw q) fun p hp => isT_keep (rows p (sub p hp)) old2
    have x2 : IsT P w s2.heap p.2 p.1 := isT_keep (rows p (List.mem_of_getElem? hp)) old2
    have fw : L.length + 1 < 64 := Nat.lt_of_le_of_lt (Nat.succ_le_succ (few_in T.nd sub hU)) few
    show wpAny _ A.in1 (holding [Value.ref p.1] (setAdd S (.ref p.1)) >>= _) _ _ s2
    refine wpAny_bind (wpAny_holding ?_)
    unfold setAdd
    refine wpAny_holding (wpAny_bind (wpAny_pyHash_tuple un x2 (add_at (s := { s2 with toks := s2.toks + (p.2.length + 1) }) T2 x2 un fw fun b h3 L3 es3 ep3 t3 sb T3 q1 q2 => ?_)))
    have g3 : Got ks (i + 1) L3 := by
      by_cases c : p.2 ∈ L.map (·.2)
      · rw [q1 c]
        exact g.same hp c
      · exact g.more hp (q2 c)
    refine wpAny_pure ⟨plainId_quiet F.plain_set_update_loop _, ih (i + 1) _ (by omega) (W.frame _ s2 _ _ st2 (Nat.le_add_right _ _) fun b hb o q => ?_) (fun s' m3 => mv s' ?_) (fun b o q => (sb.2 b (fun y => by rw [y, z1] at q; cases q)).trans (old2 b o q)) ⟨L3, es3, ep3, t3, T3, g3⟩⟩
    · rw [sb.2 b fun y : b = S => out (by rw [← y]; exact hb)]
      exact q
    · refine Moved.trans W.gtrans ((m2.mono up).then_heap (Nat.le_add_right _ _) fun b o nb q => ?_) m3
      rw [sb.2 b fun y : b = S => nb (by rw [y]; exact List.mem_cons_self)]
      exact q
end
end Ev
set_option Elab.async false
set_option linter.all false
set_option maxRecDepth 100000
set_option maxHeartbeats 4000000
set_option autoImplicit false
/-! Ev4c: sorted(set(x)). -/
namespace Ev
open PySem PySem.Spec PyProof.Rows L2
section
variable {P : Program} {w : World} {A : Around} {E : Value → Shared → Prop} {s : Shared}
/-- the set that is made first -/
def nst (w : World) : Obj := { cls := .type "set", dict := none, data := .set #[] 0 (.fresh 0 0 (!w.params.followText "set-order")) }
set_option maxHeartbeats 6400000 in
/-- set(t), t a tuple of tuples of ints -/
theorem set_of_tup {l : Addr} {vs : Array Value} (ks : List (Addr × List Int)) {Q : Value → Shared → Prop} (hh : A.handled = none) (tl : s.heap.IsTuple l vs) (ev : vs.toList = ks.map fun p => Value.ref p.1)
    (tk : ∀ p ∈ ks, IsT P w s.heap p.2 p.1) {U : List (List Int)} (hU : ∀ p ∈ ks, p.2 ∈ U) (few : U.length + 1 < 64) (un : A.units + 3 < cLine)
    (k : ∀ (h' : Heap) (n : Nat) M es ep t, SetTR P w h' s.heap.objs.size M es ep t → Got ks ks.length M → (∀ b o, s.heap.get? b = some o → h'.get? b = some o) → Q (.ref s.heap.objs.size) { s with heap := h', toks := n }) :
    wpAny (model P w) A (call (.type "set") [.ref l]) Q E s := by
  have sz : vs.size = ks.length := by rw [← Array.length_toList, ev, List.length_map]
  have m1 := F.called_set.mro; have m2 := F.called_set.made; have m3 := F.called_set.sub; have m4 := F.called_set.notType
  obtain ⟨c, r, m1⟩ := m1
  have m5 := F.called_set.canCreate; have m6 := F.typeCall_set_1 (.ref l)
  refine wpAny_call (codeAny_of_tree (show wpAny _ _ (callAny (.type "set") _) _ _ _ from wpAny_pure ⟨Code.quiet_builtin _ (by decide +kernel), codeAny_builtin F.entry_type_call ?_⟩))
  rw [Around.under_plain (weight_type_call_type "set" [.ref l] []) rfl]
  repeat any_goals first | assumption | wp_step
  refine codeAny_mono (code_set_led1 (.ref l) (E := E) (Q₁ := fun b z => b = .ref s.heap.objs.size ∧ z = { s with heap := s.heap.push (nst w) }) ⟨rfl, rfl⟩) fun r z hr => ?_
  cases r with
  | error e => exact hr
  | ok fl =>
    cases fl with
    | ret obj =>
      obtain ⟨e1, e2⟩ := hr
      subst e1 e2
      have g0 : (s.heap.push (nst w)).get? s.heap.objs.size = some (nst w) := Heap.get?_push_size _ rfl
      have g1 : Shared.TypeIs { s with heap := s.heap.push (nst w) } (.ref s.heap.objs.size) "set" := ⟨_, g0, rfl⟩
      have m7 := F.called_set.init.lookup; have m8 := F.called_set.init.bind (.ref s.heap.objs.size)
      repeat any_goals first | assumption | wp_step
      refine codeAny_mono (codeAny_call_builtin (R := wants (fun v z => v = .none ∧ ∃ h' n M es ep t, z = { s with heap := h', toks := n } ∧ SetTR P w h' s.heap.objs.size M es ep t ∧ Got ks ks.length M ∧ ∀ b o, s.heap.get? b = some o → h'.get? b = some o) E) F.called_set.init.plain F.entry_set_init (check_set_init_1 g1 ?_)) fun r2 z2 hr2 => ?_
      · have tp : (s.heap.push (nst w)).IsTuple l vs := tl.push _
        obtain ⟨ob, g2, c1, n1, c2⟩ := tl
        have u1 := F.sub_tuple_set; have u2 := F.sub_tuple_frozenset
        have u3 : (Value.type "tuple" == Value.type "dict") = false := by decide
        rcases ob with ⟨oc, od, oa, os⟩
        simp only at c1 c2
        subst c1 c2
        have g3 : (s.heap.push (nst w)).get? l = some { cls := .type "tuple", dict := od, data := .seq vs n1, slots := os } := Heap.get?_push_of_some _ g2
        unfold Builtin.«set.__init__» noKeywords Builtin.Frozenset.updateFrom
        generalize hit : pyIter = it
        wp_walk
        subst hit
        refine wpAny_pyIter_tuple tp (wpAny_bind (wpAny_runValue ?_))
        have lo : l < s.heap.objs.size := Heap.lt_size g2
        have z1 : (s.heap.push (nst w)).objs.size = s.heap.objs.size + 1 := Heap.size_push ..
        have far : ∀ b, s.heap.objs.size ≤ b → s.heap.get? b = none := fun b hb => by
          cases q : s.heap.get? b with
          | none => rfl
          | some o => exact absurd (Heap.lt_size q) (Nat.not_lt.mpr hb)
        have ne : l ≠ (s.heap.push (nst w)).objs.size := by rw [z1]; exact Nat.ne_of_lt (Nat.lt_succ_of_lt lo)
        have at_ : ∀ (i : Nat) (v : Value), vs[i]? = some v → ∃ p, ks[i]? = some p ∧ v = .ref p.1 := fun i v hv => by
          rw [← Array.getElem?_toList, ev, List.getElem?_map] at hv
          obtain ⟨p, q1, q2⟩ := Option.map_eq_some_iff.mp hv
          exact ⟨p, q1, q2.symm⟩
        refine set_loop (S := s.heap.objs.size) (h0 := s.heap) (ks := ks) (U := U) (n := vs.size) ((Walks.tuple (show A.in1.in1.in1.handled = none by simp [hh]) _ l ne vs).toS) (fun y => (List.mem_cons.mp y).elim (fun y => absurd (y.trans z1) (Nat.ne_of_lt (Nat.lt_succ_self _))) fun y => absurd (List.mem_singleton.mp y) (Nat.ne_of_gt lo)) sz hU few at_ tk (far _ (Nat.le_refl _)) (fun b hb => far b (by rw [List.mem_singleton.mp hb, z1]; exact Nat.le_succ _)) un (fun s1 z M es ep t mv R g kp e1 => ?_) vs.size 0 _ (Nat.zero_add _) ⟨⟨_, Heap.get?_push_size _ rfl, rfl, rfl⟩, tp.push _⟩ (fun s' m => m) (fun b o e => Heap.get?_push_of_some _ (Heap.get?_push_of_some _ e)) ⟨[], #[], 0, _, setTR_fresh (Heap.get?_push_of_some _ g0), Got.zero ks⟩
        subst e1
        obtain ⟨h', b1, b2, n, b3⟩ := z
        have q1 : b1 = s.gens := mv.gens
        have q2 : b2 = s.drawn := mv.drawn
        have q3 : b3 = s.os := mv.os
        subst q1 q2 q3
        rw [sz] at g
        exact wpAny_pure (wpAny_pure ⟨rfl, h', n, M, es, ep, t, rfl, R, g, kp⟩)
      · cases r2 with
        | error e => exact hr2
        | ok fl2 =>
          cases fl2 with
          | ret v =>
            obtain ⟨e1, h', n, M, es, ep, t, e2, R, g, kp⟩ := hr2
            subst e1 e2
            repeat any_goals first | assumption | wp_step
            exact k _ _ _ _ _ _ R g kp
          | _ => exact hr2.elim
    | _ => exact hr.elim
set_option maxHeartbeats 6400000 in
/-- set(x), x a list of tuples of ints -/
theorem set_of_list {l : Addr} {vs : Array Value} (ks : List (Addr × List Int)) {Q : Value → Shared → Prop} (hh : A.handled = none) (tl : s.heap.IsList l vs) (ev : vs.toList = ks.map fun p => Value.ref p.1)
    (tk : ∀ p ∈ ks, IsT P w s.heap p.2 p.1) {U : List (List Int)} (hU : ∀ p ∈ ks, p.2 ∈ U) (few : U.length + 1 < 64) (un : A.units + 3 < cLine)
    (k : ∀ (h' : Heap) (n : Nat) M es ep t, SetTR P w h' s.heap.objs.size M es ep t → Got ks ks.length M → (∀ b o, s.heap.get? b = some o → h'.get? b = some o) → Q (.ref s.heap.objs.size) { s with heap := h', toks := n }) :
    wpAny (model P w) A (call (.type "set") [.ref l]) Q E s := by
  have sz : vs.size = ks.length := by rw [← Array.length_toList, ev, List.length_map]
  have m1 := F.called_set.mro; have m2 := F.called_set.made; have m3 := F.called_set.sub; have m4 := F.called_set.notType
  obtain ⟨c, r, m1⟩ := m1
  have m5 := F.called_set.canCreate; have m6 := F.typeCall_set_1 (.ref l)
  refine wpAny_call (codeAny_of_tree (show wpAny _ _ (callAny (.type "set") _) _ _ _ from wpAny_pure ⟨Code.quiet_builtin _ (by decide +kernel), codeAny_builtin F.entry_type_call ?_⟩))
  rw [Around.under_plain (weight_type_call_type "set" [.ref l] []) rfl]
  repeat any_goals first | assumption | wp_step
  refine codeAny_mono (code_set_led1 (.ref l) (E := E) (Q₁ := fun b z => b = .ref s.heap.objs.size ∧ z = { s with heap := s.heap.push (nst w) }) ⟨rfl, rfl⟩) fun r z hr => ?_
  cases r with
  | error e => exact hr
  | ok fl =>
    cases fl with
    | ret obj =>
      obtain ⟨e1, e2⟩ := hr
      subst e1 e2
      have g0 : (s.heap.push (nst w)).get? s.heap.objs.size = some (nst w) := Heap.get?_push_size _ rfl
      have g1 : Shared.TypeIs { s with heap := s.heap.push (nst w) } (.ref s.heap.objs.size) "set" := ⟨_, g0, rfl⟩
      have m7 := F.called_set.init.lookup; have m8 := F.called_set.init.bind (.ref s.heap.objs.size)
      repeat any_goals first | assumption | wp_step
      refine codeAny_mono (codeAny_call_builtin (R := wants (fun v z => v = .none ∧ ∃ h' n M es ep t, z = { s with heap := h', toks := n } ∧ SetTR P w h' s.heap.objs.size M es ep t ∧ Got ks ks.length M ∧ ∀ b o, s.heap.get? b = some o → h'.get? b = some o) E) F.called_set.init.plain F.entry_set_init (check_set_init_1 g1 ?_)) fun r2 z2 hr2 => ?_
      · have tp : (s.heap.push (nst w)).IsList l vs := tl.push _
        obtain ⟨ob, g2, c1, n1, c2⟩ := tl
        have u1 := F.sub_list_set; have u2 := F.sub_list_frozenset
        have u3 : (Value.type "list" == Value.type "dict") = false := by decide
        rcases ob with ⟨oc, od, oa, os⟩
        simp only at c1 c2
        subst c1 c2
        have g3 : (s.heap.push (nst w)).get? l = some { cls := .type "list", dict := od, data := .seq vs n1, slots := os } := Heap.get?_push_of_some _ g2
        unfold Builtin.«set.__init__» noKeywords Builtin.Frozenset.updateFrom
        generalize hit : pyIter = it
        wp_walk
        subst hit
        refine wpAny_pyIter_list tp (wpAny_bind (wpAny_runValue ?_))
        have lo : l < s.heap.objs.size := Heap.lt_size g2
        have z1 : (s.heap.push (nst w)).objs.size = s.heap.objs.size + 1 := Heap.size_push ..
        have far : ∀ b, s.heap.objs.size ≤ b → s.heap.get? b = none := fun b hb => by
          cases q : s.heap.get? b with
          | none => rfl
          | some o => exact absurd (Heap.lt_size q) (Nat.not_lt.mpr hb)
        have ne : l ≠ (s.heap.push (nst w)).objs.size := by rw [z1]; exact Nat.ne_of_lt (Nat.lt_succ_of_lt lo)
        have at_ : ∀ (i : Nat) (v : Value), vs[i]? = some v → ∃ p, ks[i]? = some p ∧ v = .ref p.1 := fun i v hv => by
          rw [← Array.getElem?_toList, ev, List.getElem?_map] at hv
          obtain ⟨p, q1, q2⟩ := Option.map_eq_some_iff.mp hv
          exact ⟨p, q1, q2.symm⟩
        refine set_loop (S := s.heap.objs.size) (h0 := s.heap) (ks := ks) (U := U) (n := vs.size) ((Walks.list (show A.in1.in1.in1.handled = none by simp [hh]) _ l ne vs).toS) (fun y => (List.mem_cons.mp y).elim (fun y => absurd (y.trans z1) (Nat.ne_of_lt (Nat.lt_succ_self _))) fun y => absurd (List.mem_singleton.mp y) (Nat.ne_of_gt lo)) sz hU few at_ tk (far _ (Nat.le_refl _)) (fun b hb => far b (by rw [List.mem_singleton.mp hb, z1]; exact Nat.le_succ _)) un (fun s1 z M es ep t mv R g kp e1 => ?_) vs.size 0 _ (Nat.zero_add _) ⟨⟨_, Heap.get?_push_size _ rfl, rfl, rfl⟩, tp.push _⟩ (fun s' m => m) (fun b o e => Heap.get?_push_of_some _ (Heap.get?_push_of_some _ e)) ⟨[], #[], 0, _, setTR_fresh (Heap.get?_push_of_some _ g0), Got.zero ks⟩
        subst e1
        obtain ⟨h', b1, b2, n, b3⟩ := z
        have q1 : b1 = s.gens := mv.gens
        have q2 : b2 = s.drawn := mv.drawn
        have q3 : b3 = s.os := mv.os
        subst q1 q2 q3
        rw [sz] at g
        exact wpAny_pure (wpAny_pure ⟨rfl, h', n, M, es, ep, t, rfl, R, g, kp⟩)
      · cases r2 with
        | error e => exact hr2
        | ok fl2 =>
          cases fl2 with
          | ret v =>
            obtain ⟨e1, h', n, M, es, ep, t, e2, R, g, kp⟩ := hr2
            subst e1 e2
            repeat any_goals first | assumption | wp_step
            exact k _ _ _ _ _ _ R g kp
          | _ => exact hr2.elim
    | _ => exact hr.elim
end
end Ev
set_option Elab.async false
set_option linter.all false
set_option maxRecDepth 100000
set_option maxHeartbeats 4000000
set_option autoImplicit false
/-! Ev4n: set(x) of a list of ints. -/
namespace Ev
open PySem PySem.Spec PyProof.Rows L2
section
variable {P : Program} {w : World} {A : Around} {E : Value → Shared → Prop} {s : Shared}
set_option maxHeartbeats 6400000 in
/-- set(x), x a list of ints -/
theorem set_of_listI {l : Addr} {vs : Array Value} (ns : List Int) {Q : Value → Shared → Prop} (hh : A.handled = none) (tl : s.heap.IsList l vs) (ev : IntsAre vs.toList ns) (few : ns.length + 1 < scanBound)
    (k : ∀ (h' : Heap) (n c : Nat), SetR w h' s.heap.objs.size (fun j => decide (j ∈ ns)) c → c ≤ ns.length → (∀ b o, s.heap.get? b = some o → h'.get? b = some o) → Q (.ref s.heap.objs.size) { s with heap := h', toks := n }) :
    wpAny (model P w) A (call (.type "set") [.ref l]) Q E s := by
  have sz : vs.size = ns.length := by rw [← Array.length_toList]; exact IntsAre.length ev
  have m1 := F.called_set.mro; have m2 := F.called_set.made; have m3 := F.called_set.sub; have m4 := F.called_set.notType
  obtain ⟨c, r, m1⟩ := m1
  have m5 := F.called_set.canCreate; have m6 := F.typeCall_set_1 (.ref l)
  refine wpAny_call (codeAny_of_tree (show wpAny _ _ (callAny (.type "set") _) _ _ _ from wpAny_pure ⟨Code.quiet_builtin _ (by decide +kernel), codeAny_builtin F.entry_type_call ?_⟩))
  rw [Around.under_plain (weight_type_call_type "set" [.ref l] []) rfl]
  repeat any_goals first | assumption | wp_step
  refine codeAny_mono (code_set_led1 (.ref l) (E := E) (Q₁ := fun b z => b = .ref s.heap.objs.size ∧ z = { s with heap := s.heap.push (nst w) }) ⟨rfl, rfl⟩) fun r z hr => ?_
  cases r with
  | error e => exact hr
  | ok fl =>
    cases fl with
    | ret obj =>
      obtain ⟨e1, e2⟩ := hr
      subst e1 e2
      have g0 : (s.heap.push (nst w)).get? s.heap.objs.size = some (nst w) := Heap.get?_push_size _ rfl
      have g1 : Shared.TypeIs { s with heap := s.heap.push (nst w) } (.ref s.heap.objs.size) "set" := ⟨_, g0, rfl⟩
      have m7 := F.called_set.init.lookup; have m8 := F.called_set.init.bind (.ref s.heap.objs.size)
      repeat any_goals first | assumption | wp_step
      refine codeAny_mono (codeAny_call_builtin (R := wants (fun v z => v = .none ∧ ∃ h' n c, z = { s with heap := h', toks := n } ∧ SetR w h' s.heap.objs.size (fun j => decide (j ∈ ns)) c ∧ c ≤ ns.length ∧ ∀ b o, s.heap.get? b = some o → h'.get? b = some o) E) F.called_set.init.plain F.entry_set_init (check_set_init_1 g1 ?_)) fun r2 z2 hr2 => ?_
      · have tp : (s.heap.push (nst w)).IsList l vs := tl.push _
        obtain ⟨ob, g2, c1, n1, c2⟩ := tl
        have u1 := F.sub_list_set; have u2 := F.sub_list_frozenset
        have u3 : (Value.type "list" == Value.type "dict") = false := by decide
        rcases ob with ⟨oc, od, oa, os⟩
        simp only at c1 c2
        subst c1 c2
        have g3 : (s.heap.push (nst w)).get? l = some { cls := .type "list", dict := od, data := .seq vs n1, slots := os } := Heap.get?_push_of_some _ g2
        unfold Builtin.«set.__init__» noKeywords Builtin.Frozenset.updateFrom
        generalize hit : pyIter = it
        wp_walk
        subst hit
        refine wpAny_pyIter_list tp (wpAny_bind (wpAny_runValue ?_))
        have lo : l < s.heap.objs.size := Heap.lt_size g2
        have z1 : (s.heap.push (nst w)).objs.size = s.heap.objs.size + 1 := Heap.size_push ..
        have far : ∀ b, s.heap.objs.size ≤ b → s.heap.get? b = none := fun b hb => by
          cases q : s.heap.get? b with
          | none => rfl
          | some o => exact absurd (Heap.lt_size q) (Nat.not_lt.mpr hb)
        have ne : l ≠ (s.heap.push (nst w)).objs.size := by rw [z1]; exact Nat.ne_of_lt (Nat.lt_succ_of_lt lo)
        have at_ : ∀ (i : Nat) (v : Value), vs[i]? = some v → ∃ k t, ns[i]? = some k ∧ v = .int k t := fun i v hv => by
          have hi : i < ns.length := by rw [← sz]; exact (Array.getElem?_eq_some_iff.mp hv).1
          obtain ⟨t, e⟩ := PyProof.Rows.IntsAre.int_at ev i v (by rw [Array.getElem?_toList]; exact hv)
          exact ⟨ns[i], t, List.getElem?_eq_getElem hi, by rw [e, List.getD_eq_getElem?_getD, List.getElem?_eq_getElem hi]; rfl⟩
        refine set_update_ints (n := vs.size) ((Walks.list (show A.in1.in1.in1.handled = none by simp [hh]) _ l ne vs).toS) s.heap.objs.size (fun y => (List.mem_cons.mp y).elim (fun y => absurd (y.trans z1) (Nat.ne_of_lt (Nat.lt_succ_self _))) fun y => absurd (List.mem_singleton.mp y) (Nat.ne_of_gt lo)) ns sz few at_ vs.size 0 _ (Nat.sub_zero _) (Nat.zero_le _) ⟨⟨_, Heap.get?_push_size _ rfl, rfl, rfl⟩, tp.push _⟩ ⟨0, Nat.le_refl _, setR_new_at (Heap.get?_push_of_some _ g0)⟩ fun z c mv hc R => ?_
        have kp : ∀ b o, s.heap.get? b = some o → z.heap.get? b = some o := fun b o e => mv.heap b o (fun hm => by
          have lt := Heap.lt_size e
          rcases List.mem_cons.mp hm with q | q
          · rw [q] at lt
            exact absurd lt (Nat.lt_irrefl _)
          · have q := List.mem_singleton.mp q
            rw [q, z1] at lt
            exact absurd lt (Nat.not_lt.mpr (Nat.le_succ _))) (Heap.get?_push_of_some _ (Heap.get?_push_of_some _ e))
        obtain ⟨h', b1, b2, n, b3⟩ := z
        have q1 : b1 = s.gens := mv.gens
        have q2 : b2 = s.drawn := mv.drawn
        have q3 : b3 = s.os := mv.os
        subst q1 q2 q3
        rw [sz] at hc
        exact wpAny_pure (wpAny_pure ⟨rfl, h', n, c, rfl, R, hc, kp⟩)
      · cases r2 with
        | error e => exact hr2
        | ok fl2 =>
          cases fl2 with
          | ret v =>
            obtain ⟨e1, h', n, c, e2, R, hc, kp⟩ := hr2
            subst e1 e2
            repeat any_goals first | assumption | wp_step
            exact k _ _ _ R hc kp
          | _ => exact hr2.elim
    | _ => exact hr.elim
end
end Ev
set_option Elab.async false
set_option linter.all false
set_option maxRecDepth 100000
set_option maxHeartbeats 4000000
set_option autoImplicit false
/-! Ev4d: sorted(set(x)) by values. -/
namespace Ev
open PySem PySem.Spec PyProof.Rows L2
theorem cd64_code : ∀ r : List Int, cd64 r = TS.code 64 r
  | [] => rfl
  | d :: r => by
    show d * 64 ^ r.length + cd64 r = d * 64 ^ r.length + TS.code 64 r
    rw [cd64_code r]
theorem code_inj {B : Int} : ∀ {r q : List Int}, r.length = q.length → TS.Bd B r → TS.Bd B q → TS.code B r = TS.code B q → r = q
  | [], [], _, _, _, _ => rfl
  | d :: r, e :: q, hl, hr, hq, h => by
    have hl' : r.length = q.length := by simpa using hl
    rcases Int.lt_trichotomy d e with c | c | c
    · have := TS.code_lt hl' hr.tail hq.tail c
      omega
    · subst c
      have e1 : TS.code B r = TS.code B q := by
        have h : d * B ^ r.length + TS.code B r = d * B ^ q.length + TS.code B q := h
        rw [hl'] at h
        omega
      rw [code_inj hl' hr.tail hq.tail e1]
    · have := TS.code_lt hl'.symm hq.tail hr.tail c
      omega
theorem srt_perm {α : Type} {le : α → α → Bool} : ∀ l : List α, (srtB le l).Perm l
  | [] => .refl _
  | x :: l => by
    have ins : ∀ (x : α) (m : List α), (insB le x m).Perm (x :: m) := by
      intro x m
      induction m with
      | nil => exact .refl _
      | cons y m ih =>
        unfold insB
        split
        · exact .refl _
        · exact (ih.cons y).trans (.swap x y m)
    exact (ins x _).trans ((srt_perm l).cons x)
section
variable {K : PySem.W.Frag} {O : Addr → Prop} {H : Hp} {X : Cx}
theorem rows_keys : ∀ {ds : List D} {vs : List V} {rs : List (List Int)}, Rps K O H ds vs → rowsOf ds = some rs → ∃ ks : List (Addr × List Int), vs = (ks.map fun p => V.ref p.1) ∧ rs = ks.map (·.2) ∧ ∀ p ∈ ks, SqT K H p.1 (p.2.map V.int)
  | [], vs, rs, h, e => by
    rw [h.unnil]
    cases e
    exact ⟨[], rfl, rfl, fun p hp => nomatch hp⟩
  | d :: ds, vs, rs, h, e => by
    obtain ⟨v, r, ev, h1, h2⟩ := h.uncons
    cases d with
    | tup xs =>
      simp only [rowsOf] at e
      cases z : intsOf xs with
      | none => rw [z] at e; cases e
      | some ns =>
        rw [z] at e
        obtain ⟨r2, e2, e3⟩ := Option.map_eq_some_iff.mp e
        obtain ⟨ks, k1, k2, k3⟩ := rows_keys h2 e2
        obtain ⟨a, ws, ea, s1, r1⟩ := h1.untup
        rw [intsOf_eq z] at r1
        rw [r1.ints_eq] at s1
        refine ⟨(a, ns) :: ks, by rw [ev, ea, k1]; rfl, by rw [← e3, k2]; rfl, fun p hp => ?_⟩
        rcases List.mem_cons.mp hp with q | q
        · rw [q]; exact s1
        · exact k3 p q
    | _ => simp [rowsOf] at e
theorem rps_is : ∀ ns : List Int, Rps K O H (ns.map D.int) (ns.map V.int)
  | [] => Rps.nil
  | n :: ns => .cons (.int n) (rps_is ns)
theorem rps_keys : ∀ {ks : List (Addr × List Int)}, (∀ p ∈ ks, SqT K H p.1 (p.2.map V.int)) → Rps K O H (ks.map fun p => D.tup (p.2.map D.int)) (ks.map fun p => V.ref p.1)
  | [], _ => Rps.nil
  | p :: ks, h => .cons (.tup (h p List.mem_cons_self) (rps_is p.2)) (rps_keys fun q hq => h q (List.mem_cons_of_mem _ hq))
def tSset (K : PySem.W.Frag) (ta : TE) : TE := fun σ H Q => ta σ H fun x H1 => ∃ O d r, (∀ a, O a → H1 a ≠ none) ∧ Rp K O H1 d x ∧ frm .sset d = some r ∧ VOk K O H1 r Q
theorem rowsOk_i {rs : List (List Int)} (h : rowsOk rs = true) : (onceL rs).length < 60 ∧ ∃ d, 1 ≤ d ∧ ∀ r ∈ rs, r.length = d ∧ TS.Bd 64 r := by
  unfold rowsOk at h
  rw [Bool.and_eq_true, decide_eq_true_eq, List.all_eq_true] at h
  refine ⟨h.1, ?_⟩
  have g : ∀ r ∈ rs, r.length = (rs.headD [0]).length ∧ 1 ≤ r.length ∧ TS.Bd 64 r := fun r hr => by
    have := h.2 r hr
    rw [Bool.and_eq_true, Bool.and_eq_true, decide_eq_true_eq, decide_eq_true_eq, List.all_eq_true] at this
    exact ⟨this.1, this.2.1, fun x hx => of_decide_eq_true (this.2.2 x hx)⟩
  refine ⟨(rs.headD [0]).length, ?_, fun r hr => ⟨(g r hr).1, (g r hr).2.2⟩⟩
  cases rs with
  | nil => exact Nat.le_refl _
  | cons r rs => exact (g r List.mem_cons_self).2.1
/-- the list that sorted makes stands at p -/
theorem new_sorted {pins : List (Addr × Obj)} {σ : L2.St} {s s' : Shared} {p : Addr} {vs : List V} {out : Array Value} {c : Nat} {Q : VK} (I : Inv X pins σ H s) (kp : ∀ b o, s.heap.get? b = some o → s'.heap.get? b = some o) (g : s'.gens = s.gens) (o : s'.os = s.os) (hp : s.heap.objs.size ≤ p) (hg : s'.heap.get? p = some (seqObj "list" out c)) (hv : Vals vs out.toList) (hl : vs.length ≤ sizeLine) (q : Q (.ref p) (upd H p (.lst vs))) :
    H p = none ∧ ∃ v H', Inv X pins σ H' s' ∧ RelV v (.ref p) ∧ Q v H' := by
  have hn : H p = none := I.hok.fresh hp
  refine ⟨hn, .ref p, upd H p (.lst vs), ?_, rfl, q⟩
  rcases s' with ⟨h2, g2, d2, t2, o2⟩
  rcases s with ⟨h1, g1, d1, t1, o1⟩
  simp only at g o
  subst g o
  exact I.call (ch := []) (Un.laid kp hp hn) (I.hok.laid kp hp ⟨hl, out.toList, c, hv, hg⟩) I.bare (fun _ z => nomatch z)
theorem srtL_total {α : Type} (f : α → Int) : PySem.W.TotalLe (fun a b => decide (f a ≤ f b)) := ⟨fun a b c h k => decide_eq_true (Int.le_trans (of_decide_eq_true h) (of_decide_eq_true k)), fun a b => by
    rcases Int.le_total (f a) (f b) with h | h
    · exact .inl (decide_eq_true h)
    · exact .inr (decide_eq_true h)⟩
/-- rows: whatever stands in the set, sorted by their codes -/
theorem rows_sorted {rs : List (List Int)} (ok : rowsOk rs = true) {m : List (List Int)} (nd : m.Nodup) (pw : m.Pairwise fun a b => TS.code 64 a ≤ TS.code 64 b) (e : ∀ r, r ∈ m ↔ r ∈ rs) : m = srtB (fun a b => decide (cd64 a ≤ cd64 b)) (onceL rs) := by
  obtain ⟨_, d, _, hd⟩ := rowsOk_i ok
  have pm : m.Perm (srtB (fun a b => decide (cd64 a ≤ cd64 b)) (onceL rs)) := ((List.perm_ext_iff_of_nodup nd (once_nd rs)).mpr fun r => (e r).trans once_mem.symm).trans (srt_perm _).symm
  refine List.Perm.eq_of_pairwise (le := fun a b => TS.code 64 a ≤ TS.code 64 b) (fun a b ha hb h1 h2 => ?_) pw ?_ pm
  · have ra := hd a ((e a).mp ha)
    have rb := hd b ((e b).mp (pm.mem_iff.mpr hb))
    exact code_inj (ra.1.trans rb.1.symm) ra.2 rb.2 (Int.le_antisymm h1 h2)
  · refine (srtB_pw (srtL_total cd64) (onceL rs)).imp fun {a b} h => ?_
    rw [← cd64_code, ← cd64_code]
    exact of_decide_eq_true h
theorem ints_sorted {ns m : List Int} (pw : m.Pairwise (· < ·)) (e : ∀ k, k ∈ m ↔ k ∈ ns) : m = srtB (fun a b => decide (a ≤ b)) (onceL ns) := by
  have nd : m.Nodup := pw.imp fun h => Int.ne_of_lt h
  have pm : m.Perm (srtB (fun a b => decide (a ≤ b)) (onceL ns)) := ((List.perm_ext_iff_of_nodup nd (once_nd ns)).mpr fun r => (e r).trans once_mem.symm).trans (srt_perm _).symm
  refine List.Perm.eq_of_pairwise (le := fun a b : Int => a ≤ b) (fun a b _ _ h1 h2 => Int.le_antisymm h1 h2) (pw.imp fun h => Int.le_of_lt h) ?_ pm
  exact (srtB_pw (srtL_total id) (onceL ns)).imp fun h => of_decide_eq_true h
theorem pe_sset {a : PySem.Expr} {ta : TE} {p p2 q pos : Pos} (hg : Gl X "sorted") (hm : X.mg "sorted" = none) (hg2 : Gl X "set") (hm2 : X.mg "set" = none) (ha : PE X a ta) (hc : X.calm = true) (hu : X.A.units + 65 < cLine)
    (na : starEach [a] X.env = (false, eval a X.env) :: starEach [] X.env) : PE X (.Call (.Name "sorted" p) [.Call (.Name "set" p2) [a] [] q] [] pos) (tSset X.K ta) := by
  refine ⟨fun pins s σ H Q I h => ?_⟩
  refine Call_ (ld_blt I hg hm boot_sorted ?_)
  refine PyProof.Rows.callWith_builtin1 (PyProof.Rows.args_cons ?_ rfl) rfl rfl
  refine Call_ (ld_blt I hg2 hm2 boot_set ?_)
  refine PyProof.Rows.callWith_type1 (PyProof.Rows.args_cons (thn (ha.run pins s σ H _ I h) fun v s1 ⟨x, H1, I1, r1, q1⟩ => PyProof.Rows.args_nil ?_) na) na rfl
  obtain ⟨O, d, r, hO, hx, hd, q1⟩ := q1
  -- rows within a set: sorted
  have fin : ∀ (ks : List (Addr × List Int)) (h' : Heap) (tk : Nat) M es ep t, rowsOk (ks.map (·.2)) = true → (∀ p ∈ ks, SqT X.K H1 p.1 (p.2.map V.int)) → r = .lst ((srtB (fun a b => decide (cd64 a ≤ cd64 b)) (onceL (ks.map (·.2)))).map fun r => .tup (r.map .int)) → SetTR X.prog X.w h' s1.heap.objs.size M es ep t → Got ks ks.length M → (∀ b o, s1.heap.get? b = some o → h'.get? b = some o) →
      wpAny (model X.prog X.w) X.A (call (.builtin "sorted") [.ref s1.heap.objs.size]) (EP X pins σ Q) X.xe { s1 with heap := h', toks := tk } := fun ks h' tk M es ep t ok hk hr R g kp => by
    have I2 : Inv X pins σ H1 { s1 with heap := h', toks := tk } := I1.kept fun b o e => kp b o e
    obtain ⟨l60, dd, d1, hdd⟩ := rowsOk_i ok
    have sub : ∀ p ∈ M, p ∈ ks := fun p hp => List.mem_of_mem_take (g.sub p hp)
    refine sorted_setT R (I1.ok.hd hc) d1 (fun p hp => hdd _ (List.mem_map.mpr ⟨p, sub p hp, rfl⟩)) fun s' b out c N k g1 o1 hb hgt ho pm pw => ?_
    have hN : ∀ p ∈ N, SqT X.K H1 p.1 (p.2.map V.int) := fun p hp => hk p (sub p (pm.mem_iff.mp hp))
    have rr : (srtB (fun a b => decide (cd64 a ≤ cd64 b)) (onceL (ks.map (·.2)))) = N.map (·.2) := by
      refine (rows_sorted ok ((pm.map (·.2)).nodup_iff.mpr R.nd) (List.pairwise_map.mpr pw) fun r => ?_).symm
      rw [(pm.map (·.2)).mem_iff]
      constructor
      · intro z
        obtain ⟨p, hp, e⟩ := List.mem_map.mp z
        exact List.mem_map.mpr ⟨p, sub p hp, e⟩
      · intro z
        obtain ⟨p, hp, e⟩ := List.mem_map.mp z
        rw [← e]
        exact g.all p (by rw [List.take_length]; exact hp)
    have er : r = .lst (N.map fun p => .tup (p.2.map .int)) := by
      rw [hr, rr, List.map_map]
      rfl
    rw [er] at q1
    obtain ⟨hn, w1, H3, a1, a2, a3⟩ := new_sorted (vs := N.map fun q => V.ref q.1) I2 k g1 o1 hb hgt (by rw [ho]; exact vals_of_refs N) (by rw [List.length_map, pm.length_eq, sizeLine_eq]; have := R.few; omega) (q1.newL hO (rps_keys hN) (I2.hok.fresh hb))
    exact ⟨w1, H3, a1, a2, a3⟩
  cases d with
  | lst ds =>
    obtain ⟨l, vs, e, _, s2, r2⟩ := hx.unlst
    subst e
    cases r1
    simp only [frm] at hd
    obtain ⟨its, rv, pl, hz⟩ := I1.list (.inl (.inl s2))
    cases z : intsOf ds with
    | some ns =>
      rw [z] at hd
      simp only at hd
      split at hd
      case isFalse => cases hd
      case isTrue l60 =>
        cases hd
        rw [intsOf_eq z] at r2
        rw [r2.ints_eq] at rv
        have hi : IntsAre its.toArray.toList ns := by simpa using RZ.intsAre_vals rv
        refine set_of_listI (P := X.prog) (w := X.w) ns (I1.ok.hd hc) pl.isList hi (by unfold scanBound; omega) fun h' tk c R hcn k => PyProof.Rows.args_nil ?_
        have I2 : Inv X pins σ H1 { s1 with heap := h', toks := tk } := I1.kept fun b o e => k b o e
        refine sorted_set R (I1.ok.hd hc) (by omega) fun s' b out c2 m k2 g1 o1 hb hgt ho pw hm2 hl => ?_
        have em := ints_sorted pw fun k => (hm2 k).trans (decide_eq_true_iff (p := k ∈ ns))
        rw [← em] at q1
        obtain ⟨hn, w1, H3, a1, a2, a3⟩ := new_sorted (vs := m.map V.int) I2 k2 g1 o1 hb hgt (vals_of_ints ho) (by rw [List.length_map, hl, sizeLine_eq]; omega) (q1.newL hO (rps_is m) (I2.hok.fresh hb))
        exact ⟨w1, H3, a1, a2, a3⟩
    | none =>
      rw [z] at hd
      have hd : ssetR ds = some r := hd
      unfold ssetR at hd
      obtain ⟨rs, k1, k2⟩ := Option.bind_eq_some_iff.mp hd
      split at k2
      case isFalse => cases k2
      case isTrue ok =>
        cases k2
        obtain ⟨ks, e1, e2, e3⟩ := rows_keys r2 k1
        subst e1 e2
        refine set_of_list (P := X.prog) (w := X.w) ks (I1.ok.hd hc) pl.isList (by simpa using refs_of_vals rv) (fun p hp => I1.isT (e3 p hp)) (U := onceL (ks.map (·.2))) (fun p hp => once_mem.mpr (List.mem_map.mpr ⟨p, hp, rfl⟩)) (by have := (rowsOk_i ok).1; omega) (by omega) fun h' tk M es ep t R g k => PyProof.Rows.args_nil ?_
        exact fin ks h' tk M es ep t ok e3 rfl R g k
  | tup ds =>
    obtain ⟨l, vs, e, s2, r2⟩ := hx.untup
    subst e
    cases r1
    simp only [frm] at hd
    obtain ⟨its, rv, pl, hz⟩ := I1.tuple s2
    cases z : intsOf ds with
    | some ns =>
      rw [z] at hd
      simp only at hd
      split at hd
      case isFalse => cases hd
      case isTrue l60 =>
        cases hd
        rw [intsOf_eq z] at r2
        rw [r2.ints_eq] at rv
        have hi : IntsAre its.toArray.toList ns := by simpa using RZ.intsAre_vals rv
        refine call_set_tupI ns (I1.ok.hd hc) (show s1.heap.IsTuple l its.toArray from pl) hi (by unfold scanBound; omega) fun h' tk c R hcn k => PyProof.Rows.args_nil ?_
        have I2 : Inv X pins σ H1 { s1 with heap := h', toks := tk } := I1.kept fun b o e => k b o e
        refine sorted_set R (I1.ok.hd hc) (by omega) fun s' b out c2 m k2 g1 o1 hb hgt ho pw hm2 hl => ?_
        have em := ints_sorted pw fun k => (hm2 k).trans (decide_eq_true_iff (p := k ∈ ns))
        rw [← em] at q1
        obtain ⟨hn, w1, H3, a1, a2, a3⟩ := new_sorted (vs := m.map V.int) I2 k2 g1 o1 hb hgt (vals_of_ints ho) (by rw [List.length_map, hl, sizeLine_eq]; omega) (q1.newL hO (rps_is m) (I2.hok.fresh hb))
        exact ⟨w1, H3, a1, a2, a3⟩
    | none =>
      rw [z] at hd
      have hd : ssetR ds = some r := hd
      unfold ssetR at hd
      obtain ⟨rs, k1, k2⟩ := Option.bind_eq_some_iff.mp hd
      split at k2
      case isFalse => cases k2
      case isTrue ok =>
        cases k2
        obtain ⟨ks, e1, e2, e3⟩ := rows_keys r2 k1
        subst e1 e2
        refine set_of_tup (P := X.prog) (w := X.w) ks (I1.ok.hd hc) (show s1.heap.IsTuple l its.toArray from pl) (by simpa using refs_of_vals rv) (fun p hp => I1.isT (e3 p hp)) (U := onceL (ks.map (·.2))) (fun p hp => once_mem.mpr (List.mem_map.mpr ⟨p, hp, rfl⟩)) (by have := (rowsOk_i ok).1; omega) (by omega) fun h' tk M es ep t R g k => PyProof.Rows.args_nil ?_
        exact fin ks h' tk M es ep t ok e3 rfl R g k
  | _ => simp [frm] at hd
end
end Ev
set_option Elab.async false
set_option linter.all false
set_option maxRecDepth 100000
set_option maxHeartbeats 4000000
set_option autoImplicit false
/-! Ev4k: sorted(d.keys()). -/
namespace Ev
open PySem PySem.Spec PyProof.Rows L2
section
variable {prog : Program} {w : World} {A : Around} {E : Value → Shared → Prop} {s : Shared}
theorem itemsOf_keys {es : Array DictEntry} {acc : Array Value} (h : ItemsOf (fun i v => ∃ hi : i < es.size, v = es[i].key) acc es.size) : acc.toList = es.toList.map (·.key) := by
  refine List.ext_getElem? fun i => ?_
  rw [Array.getElem?_toList, List.getElem?_map, Array.getElem?_toList]
  by_cases hi : i < es.size
  · have ha : i < acc.size := by rw [h.1]; exact hi
    obtain ⟨_, q⟩ := h.2 i acc[i] (Array.getElem?_eq_getElem ha)
    rw [Array.getElem?_eq_getElem ha, Array.getElem?_eq_getElem hi, q]
    rfl
  · rw [Array.getElem?_eq_none (by rw [h.1]; omega), Array.getElem?_eq_none (by omega)]
    rfl
/-- sorted(view) -/
theorem sorted_keys {r d : Addr} {es : Array DictEntry} {ep : Nat} {β : Type} {bs : List β} {enc : β → PyData} {R : Value → β → Prop} {Q : Value → Shared → Prop} (hh : A.handled = none) (hv : PySem.W.KdlKeysView s.heap r d) (hm : s.heap.DictRaw d es ep) (hn : es.size ≤ sizeLine)
    (e : PySem.W.EachIs R (es.toList.map (·.key)) bs) (er : PySem.W.EachIs (fun v b => Reads s.heap v (enc b) []) (es.toList.map (·.key)) bs) (hal : PySem.W.AllAlike (bs.map enc)) (hk : PySem.W.Sortable (bs.map enc)) (hu : ∀ b, b ∈ bs → A.units + 2 + (enc b).depth < cLine)
    (h : ∀ (h1 h' : Heap) (tk : Nat) (out : List Value) (c : Nat), (∀ b o, s.heap.get? b = some o → h1.get? b = some o) → (∀ b o, h1.get? b = some o → h'.get? b = some o) → h'.get? h1.objs.size = some (seqObj "list" (List.toArray out) c) → out.length = bs.length → PySem.W.EachIs R out (bs.mergeSort (PySem.W.dataLe false enc)) →
      Q (.ref h1.objs.size) { s with heap := h', toks := tk }) : wpAny (model prog w) A (call (.builtin "sorted") [.ref r]) Q E s := by
  refine Calls.call_function_entry kind_sorted plain_sorted entry_sorted (args_sorted1 _) ?_
  unfold Builtin.«sorted»
  refine wpAny_bind (m := checkCount "sorted" 1 1 _) (wpAny_pure ?_)
  refine wpAny_bind (PySem.W.kdu_collect (A := A.in1) (PySem.KdlSrc.rawKeys (es := es) (ep := ep) (d := d)) hh ⟨hv, hm⟩ hn fun h1 tk acc hk1 hi => ?_)
  have ea := itemsOf_keys hi
  have lb : bs.length = es.size := by rw [← e.length, List.length_map, Array.length_toList]
  refine wpAny_bind (wpAny_newList ?_ (by rw [ea, List.length_map, Array.length_toList]; exact hn))
  rw [ea]
  have hoL : (h1.push (seqObj "list" (es.toList.map (·.key)).toArray 0)).get? h1.objs.size = some (seqObj "list" (es.toList.map (·.key)).toArray 0) := Heap.get?_push_size _ rfl
  show wpAny _ _ _ _ _ { s with heap := h1.push (seqObj "list" (es.toList.map (·.key)).toArray 0), toks := tk }
  have up : ∀ b o, s.heap.get? b = some o → (h1.push (seqObj "list" (es.toList.map (·.key)).toArray 0)).get? b = some o := fun b o q => Heap.get?_push_of_some _ (hk1 b o q)
  refine wpAny_bind (wpAny_holding (PySem.W.list_sort_data (A := A.in1) (s := { s with heap := h1.push (seqObj "list" (es.toList.map (·.key)).toArray 0), toks := tk }) hoL e
    (er.mono fun v b q => ⟨[], PyProof.Rows.Reads.keeps (fun _ _ => up _ _) q, List.not_mem_nil⟩) hal hk (by rw [lb]; exact hn) (fun b hb => by have := hu b hb; rw [Around.in1_units]; omega) fun out hl eo => ?_))
  refine wpAny_pure ⟨_, rfl, ?_⟩
  obtain ⟨c, hc⟩ := PyProof.Rows.sortedHeap_at (vs := es.toList.map (·.key)) (out := out.toArray) hoL
  refine h h1 _ tk out c hk1 (fun b o q => ?_) hc hl eo
  have hb : b < h1.objs.size := Heap.lt_size q
  rw [PyProof.Rows.sortedHeap_old (Nat.ne_of_lt hb) (by rw [size_push']; exact Nat.lt_succ_of_lt hb)]
  exact Heap.get?_push_of_some _ q
end
/-! ### by values -/
def keysV : List V → List V
  | k :: _ :: vs => k :: keysV vs
  | _ => []
section
variable {K : PySem.W.Frag} {O : Addr → Prop} {H : Hp}
theorem keys_rps : ∀ {ds : List D} {vs : List V}, evn ds = true → Rps K O H ds vs → Rps K O H (keysD ds) (keysV vs)
  | [], vs, _, h => by rw [h.unnil]; exact .nil
  | [_], _, h, _ => by cases h
  | k :: d :: ds, vs, he, h => by
    obtain ⟨v, r, rfl, h1, h2⟩ := h.uncons
    obtain ⟨u, q, rfl, h3, h4⟩ := h2.uncons
    exact .cons h1 (keys_rps (ds := ds) he h4)
theorem keys_vals : ∀ {ds : List D} {vs : List V} {es : List DictEntry}, evn ds = true → Rps K O H ds vs → Paired DER (ent ds vs) es → Vals (keysV vs) (es.map (·.key))
  | [], vs, es, _, h, p => by
    rw [h.unnil] at p ⊢
    cases p
    exact .nil
  | [_], _, _, h, _, _ => by cases h
  | k :: d :: ds, vs, es, he, h, p => by
    obtain ⟨v, r, rfl, h1, h2⟩ := h.uncons
    obtain ⟨u, q, rfl, h3, h4⟩ := h2.uncons
    cases p with
    | cons p1 p2 => exact .cons p1.2.1 (keys_vals (ds := ds) he h4 p2)
end
/-- sorted(d.keys()) -/
def tSkeys (K : PySem.W.Frag) (td : TE) : TE := fun σ H Q => td σ H fun x H1 => ∃ (O : Addr → Prop) (a : Addr) (ds : List D) (vs : List V) (d : D), x = .ref a ∧ DicAt H1 a (ent ds vs) ∧ DOk ds ∧ Rps K O H1 ds vs ∧ sortK (keysD ds) = some d ∧ (∀ b, O b → H1 b ≠ none) ∧ VOk K O H1 d Q
theorem pe_skeys {X : Cx} {o : PySem.Expr} {td : TE} {p apos q pos : Pos} (hg : Gl X "sorted") (hm : X.mg "sorted" = none) (ho : PE X o td) (hc : X.calm = true) (hu : X.A.units + 65 < cLine)
    (hbase : attributeBase o "keys" X.env (eval o X.env) = eval o X.env) (hline : (apos.endLine == q.line) = true) : PE X (.Call (.Name "sorted" p) [.Call (.Attribute o "keys" apos) [] [] q] [] pos) (tSkeys X.K td) := by
  refine ⟨fun pins s σ H Q I h => ?_⟩
  refine Call_ (ld_blt I hg hm boot_sorted ?_)
  refine PyProof.Rows.callWith_builtin1 (PyProof.Rows.args_cons ?_ rfl) rfl rfl
  refine wpAny_Call_method0_late hbase hline (thn (ho.run pins s σ H _ I h) fun u s1 ⟨x, H1, I1, rx, O, a, ds, vs, d, ex, ha, ok, r, hs, hO, q1⟩ => ?_)
  subst ex
  obtain rfl : u = Value.ref a := rx
  obtain ⟨arr, ep, hr, hsm, hsz, hp⟩ := dic_rawAt I1 ha
  refine ⟨"dict", "dict.keys", PySem.F.plainAttrs_dict, PySem.F.slot_dict_keys, PySem.F.type_dict_keys, hr.typeIs, fun b e => ?_, ?_⟩
  · cases e
    obtain ⟨ob, h1, h2, _⟩ := hr
    exact ⟨ob, h1, h2.2.1⟩
  refine Calls.callWith_builtin rfl (PySem.evalArgs_none ?_)
  refine call_meetsIn PySem.F.slot_dict_keys hr.typeIs PySem.F.entry_dict_keys (PySem.F.args_dict_keys_1 _) (meets_dict_keys_raw a hsm) ⟨⟨arr, ep, hr⟩, ?_⟩
  refine PyProof.Rows.args_nil ?_
  have I2 : Inv X pins σ H1 { s1 with heap := s1.heap.push { cls := .type "dict_keys", data := .fields #[.ref a] } } := I1.kept (t' := s1.toks) fun b ob q => Heap.get?_push_of_some _ q
  have hr2 : (s1.heap.push { cls := .type "dict_keys", data := .fields #[.ref a] }).DictRaw a arr ep := hr.at fun _ q => Heap.get?_push_of_some _ q
  have rk := keys_rps ok.ev r
  have rvk := keys_vals ok.ev r hp
  have ei := Rps.each rk rvk
  unfold sortK at hs
  split at hs
  case isFalse => cases hs
  rename_i hc2
  cases hs
  obtain ⟨k1, k2, k3, k4⟩ := srtOk_i hc2.1
  refine sorted_keys (s := { s1 with heap := s1.heap.push { cls := .type "dict_keys", data := .fields #[.ref a] } }) (enc := toP) (I2.ok.hd hc) ⟨_, Heap.get?_push_size _ rfl, rfl, rfl⟩ hr2 hsz ei ?_ k3 k4 (fun b hb => ?_) fun h1 h' tk out c kp1 kp2 hg' hl eo => ?_
  · refine each_with ei fun w d hd ⟨v, w1, w2⟩ => ?_
    obtain ⟨as, rr⟩ := Dp.reads I2 (toP d) v w (w1.dp (shs_mem k1 d hd)) w2
    rw [reads_pur (purs_mem k2 d hd) rr] at rr
    exact rr
  · have := (sh_lay (shs_mem k1 b hb)).2
    omega
  · rw [sort_is k2] at eo
    obtain ⟨vs2, g1, g2⟩ := each_rps eo
    have I3 : Inv X pins σ H1 { s1 with heap := h1 } := I2.kept (t' := s1.toks) kp1
    have hf : H1 h1.objs.size = none := I3.hok.fresh (Nat.le_refl _)
    refine ⟨.ref h1.objs.size, upd H1 h1.objs.size (.lst vs2), I3.laid (t' := tk) kp2 (Nat.le_refl _) ⟨?_, out, c, g2, hg'⟩, rfl, q1.newL hO g1 hf⟩
    rw [g2.length, hl]
    exact Nat.le_trans hc2.2 lim_line
end Ev
set_option Elab.async false
set_option linter.all false
set_option maxRecDepth 100000
set_option maxHeartbeats 4000000
set_option autoImplicit false
/-! Ev4f: sorted(range(n), key=lambda x: y[x]), at the library's level. -/
namespace Ev
open PySem PySem.Spec PyProof.Rows L2 LamX
theorem bind_one {name qual : Str} {pp : Pos} {body : PySem.Expr} {scope : Scope} {cl : List (Str × Addr)} {pm cdv ct v : Value} :
    bindArgs (PySem.W.kla_fn name qual (onePar "at" pp) body scope cl pm cdv ct) ⟨[v], []⟩ = pure [(("at" : Str), v)] := rfl
theorem dflt_one {x : Str} {pp : Pos} {env : PySem.Env} : defaultsOf (onePar x pp) env = ([], []) := rfl
section
variable {prog : Program} {w : World} {A : Around} {E : Value → Shared → Prop} {s : Shared}
/-- (lambda x: y[x])(i), y a list of items -/
theorem lam_turn {f cy L : Addr} {u pm ctv : Value} {c' : Addr} {qual y : Str} {pp px py pb : Pos} {scope : Scope} {clos : List (Str × Addr)} {items : Array Value} {i : Int} {t : Tok} {Q : Value → Shared → Prop} (hd : A.depth < recursionLimit)
    (ho : s.heap.get? f = some (PySem.W.kla_obj "<lambda>" qual (onePar "at" pp) (.Subscript (.Name y py) (.Name "at" px) pb) scope clos pm c' ctv)) (k1 : scope.kind = .function) (k2 : scope.isCoroutine = false) (k3 : scope.isGenerator = false) (k4 : ∀ z ∈ scope.names, z.2 ≠ .cell)
    (hx : scope.names.lookup ("at" : Str) = some .local) (hy : scope.names.lookup y = some .free) (by_ : badName y = false) (code : s.heap.CodeRec (.ref c') qual) (hc : clos.lookup y = some cy) (hcell : s.heap.IsCell cy (some (.ref L)))
    (hl : s.heap.IsList L items) (h0 : 0 ≤ i) (h1 : i < 2 ^ 63) (hu : items[i.toNat]? = some u) (lim : s.heap.NoLimit)
    (h : ∀ (h' : Heap) (tk : Nat), (∀ b o, s.heap.get? b = some o → h'.get? b = some o) → Q u { s with heap := h', toks := tk }) :
    wpAny (model prog w) A (call (.ref f) [.int i t]) Q E s := by
  obtain ⟨c2, oc, vs, tq, hc2, hoc, hdc, hq⟩ := code
  unfold badName at by_
  simp only [Bool.or_eq_false_iff] at by_
  refine wpAny_call (PySem.W.kla_callFunE hd ho rfl k2 k3 rfl ⟨c2, oc, vs, tq, hc2, hoc, hdc, hq⟩ ?_)
  rw [bind_one]
  refine wpAny_pure (wpAny_newFunctionEnv k4 (fun z hz => by rw [List.mem_singleton.mp hz]; exact hx) (fun h₁ hns hsb => ⟨lim.fresh _ hsb, ?_⟩) k1)
  have kp : ∀ b o, s.heap.get? b = some o → h₁.get? b = some o := fun b o e => hsb.extBut b o (Nat.ne_of_lt (Heap.lt_size e)) (Heap.get?_push_of_some _ e)
  refine PySem.W.kla_codeExpr (Subscript_ (wpAny_Name (wpAny_loadName_free k1 hy hc (hcell.keeps kp) (wpAny_Name (wpAny_loadName_local k1 hx hns rfl ?_) (by decide)) by_.1.2) by_.1.1))
  refine item_listR ((let ⟨o, q, r⟩ := hl; ⟨o, kp _ _ q, r⟩)) h0 h1 hu ?_
  exact h h₁ _ kp
/-- sorted(range(n), key=f): f's calls keep all that was there and give keys -/
theorem sorted_range_key {r : Addr} {n : Nat} {t u v : Tok} {f : Addr} {β : Type} {bs : List β} {R : Value → β → Prop} {Q : Value → Shared → Prop} (k : β → PyData) (hh : A.handled = none) (hr : IsRange s.heap r 0 (n : Int) 1 t u v) (hn : n ≤ 2 ^ 24) (hlen : bs.length = n)
    (each : ∀ vs : List Value, vs.length = n → (∀ (i : Nat) (v : Value), vs[i]? = some v → ∃ t, v = .int i t) → PySem.W.EachIs R vs bs) (hal : PySem.W.AllAlike (bs.map k)) (hk : PySem.W.Sortable (bs.map k))
    (hu : ∀ x, x ∈ bs → A.units + 2 + (k x).depth < cLine)
    (turn : ∀ (v : Value) (x : β), R v x → x ∈ bs → ∀ (h : Heap) (tk : Nat), (∀ b o, s.heap.get? b = some o → h.get? b = some o) →
      wpAny (model prog w) A.in1.in1 (call (.ref f) [v]) (PySem.W.KeyPure (k x) { s with heap := h, toks := tk }) (fun _ _ => False) { s with heap := h, toks := tk })
    (h : ∀ (out : List Value) (c : Nat) (h1 h' : Heap) (tk1 tk : Nat), (∀ b o, s.heap.get? b = some o → h1.get? b = some o) → (∀ b o, h1.get? b = some o → h'.get? b = some o) → h'.get? h1.objs.size = some (seqObj "list" (List.toArray out) c) → out.length = n → PySem.W.EachIs R out (bs.mergeSort (PySem.W.dataLe false k)) →
      Q (.ref h1.objs.size) { s with heap := h', toks := tk }) :
    wpAny (model prog w) A (call (.builtin "sorted") [.ref r] [(Str.ofString "key", .ref f)]) Q E s := by
  refine PyProof.Rows.call_function_entry_kw kind_sorted plain_sorted entry_sorted (PyProof.Rows.ksk_s1 _ _) ?_
  unfold Builtin.«sorted»
  refine wpAny_bind (m := checkCount "sorted" 1 1 _) (wpAny_pure ?_)
  have sz : Builtin.Range.rangeSize 0 (n : Int) 1 = n := by
    rw [rangeSize_one]
    split <;> omega
  refine wpAny_bind (collect_range (A := A.in1) (n := n) hh hr (small_one (by omega) (by omega) (by omega) (by omega)) sz hn fun h1 tk1 acc hk1 hi => ?_)
  have el : acc.toList.length = n := by rw [Array.length_toList]; exact hi.1
  have e := each acc.toList el fun i v q => by
    obtain ⟨t, z⟩ := hi.2 i v (by rw [← q, Array.getElem?_toList])
    exact ⟨t, by rw [z]; simp⟩
  refine wpAny_bind (wpAny_newList ?_ (by rw [el, sizeLine_eq]; omega))
  have hoL : (h1.push (seqObj "list" acc.toList.toArray 0)).get? h1.objs.size = some (seqObj "list" acc.toList.toArray 0) := Heap.get?_push_size _ rfl
  show wpAny _ _ _ _ _ { s with heap := h1.push (seqObj "list" acc.toList.toArray 0), toks := tk1 }
  have up : ∀ {g : Heap}, PySem.W.KeepsBut h1.objs.size (h1.push (seqObj "list" acc.toList.toArray 0)) g → ∀ b o, h1.get? b = some o → g.get? b = some o := fun {g} kp b o q =>
    kp b o (Nat.ne_of_lt (Heap.lt_size q)) (Heap.get?_push_of_some _ q)
  refine wpAny_bind (wpAny_holding (wpAny_call_entry_kw slot_list_sort ⟨_, hoL, rfl⟩ entry_list_sort ?_ (PyProof.Rows.ksk_l1 _ _)))
  rw [PyProof.Rows.ksk_t1]
  refine PySem.W.keyH_tree (kz := bs.map k) (s := { s with heap := h1.push (seqObj "list" acc.toList.toArray 0), toks := tk1 }) hoL (by rw [List.length_map, el, hlen]) (by rw [el, sizeLine_eq]; omega) hal hk (PySem.W.bound_map (A := A.in1.in1) hu)
    (PySem.W.keyH_turns (s := { s with heap := h1.push (seqObj "list" acc.toList.toArray 0), toks := tk1 }) e fun v x hR hx g tk kp => turn v x hR hx g tk fun b o q => up kp b o (hk1 b o q)) fun g tk out c kp hD ko => ⟨_, rfl, ?_⟩
  refine wpAny_pure ⟨_, rfl, ?_⟩
  exact h out c h1 g tk1 tk hk1 (up kp) hD ((ko.length (by rw [List.length_map, el, hlen])).trans el) (PySem.W.keyedOut_each k ko e)
end
end Ev
set_option Elab.async false
set_option linter.all false
set_option maxRecDepth 100000
set_option maxHeartbeats 4000000
set_option autoImplicit false
/-! Ev4g: a lambda is made; sorted(range(n), key=lambda at: y[at]) by values. -/
namespace Ev
open PySem PySem.Spec PyProof.Rows L2 LamX
section
variable {X : Cx} {pins : List (Addr × Obj)} {σ : L2.St} {H : Hp} {s : Shared} {T : List (Addr × Str)} {c P : Addr} {params : Arguments} {body : PySem.Expr} {scope : Scope} {pos : Pos}
/-- what a made lambda is: its object, its code object; the heap has grown, the maker's table too -/
structure Made (X : Cx) (T : List (Addr × Str)) (params : Arguments) (body : PySem.Expr) (scope : Scope) (H H1 : Hp) (s' : Shared) (f : Addr) : Prop where
  ext : ExtN H H1
  al : ∀ b, H b ≠ none → H1 b ≠ none
  tabs : Tabs T H1
  ob : ∃ (c' : Addr) (pm ctv : Value), s'.heap.get? f = some (PySem.W.kla_obj "<lambda>" (X.env.qual ++ "<lambda>") params body scope (cloFrom X.env.cells scope.names []) pm c' ctv) ∧ H1 c' = some (CodeO c' (X.env.qual ++ "<lambda>"))
  un : H1 f = none
theorem lam_made {Q : Value → Shared → Prop} {E : Value → Shared → Prop} (I : Inv X pins σ H s) (tab : TabB X.base X.mg c P) (hc : X.env.code = .ref c) (mem : (P, X.env.qual ++ "<lambda>") ∈ T) (one : ∀ p ∈ T, p.1 = P → p.2 = X.env.qual ++ "<lambda>") (ts : Tabs T H)
    (nd : defaultsOf params X.env = ([], [])) (fr : ∀ y ∈ scope.names, y.2 = .free → ∃ c, X.env.cells.lookup y.1 = some c)
    (fin : ∀ (f : Addr) (H1 : Hp) (s' : Shared), Inv X pins σ H1 s' → Made X T params body scope H H1 s' f → Q (.ref f) s') :
    wpAny (model X.prog X.w) X.A (eval (.Lambda params body scope pos) X.env) Q E s := by
  obtain ⟨ps, tP, ok3, codes⟩ := ts _ mem
  have tP' : s.heap.get? P = some { cls := .none, data := .fields ps } := I.hok P _ tP
  refine PySem.W.kla_eval nd ?_
  rcases hit : codeAmong pos ps.toList with _ | cv
  · -- new
    refine PySem.W.kla_makeFunction (mg := X.mg) (closure_ok fr) I.ok.glob (I.mod.glob.keeps I.bk) hc (tab.code.keeps I.bk) tP' ok3 hit tab.gP (tab.bm.keeps I.bk) ?_
    intro cd ctv g tk grow c0 c1 isCode tP2
    obtain ⟨cd2, oc, vs, t, ecd, goc, doc, voc⟩ := isCode
    cases ecd
    have newc : H cd = none := I.hok.fresh c0
    have cP : P ≠ cd := ne_of_none tP newc
    have gsz := Nat.le_trans c0 (Nat.le_of_lt c1)
    have J := inv_table (q := X.env.qual ++ "<lambda>") (t' := tk) (more := #[rawInt pos.line, rawInt pos.col, .ref cd]) (c := cd)
      (h' := g.push (PySem.W.kla_obj "<lambda>" (X.env.qual ++ "<lambda>") params body scope (cloFrom X.env.cells scope.names []) ((X.mg "__name__").getD .none) cd ctv))
      I tP (fun b o nb e => Heap.get?_push_of_some _ (grow b o nb e)) (Heap.get?_push_of_some _ tP2) c0 ⟨oc, vs, t, Heap.get?_push_of_some _ goc, doc, voc⟩
    have keepN : ∀ b o, H b = some o → b ≠ P → upd (upd H P (.tbl (ps ++ #[rawInt pos.line, rawInt pos.col, .ref cd]))) cd (CodeO cd (X.env.qual ++ "<lambda>")) b = some o := by
      intro b o e nb
      rw [upd_ne (ne_of_none e newc), upd_ne nb, e]
    have ext : ExtN H (upd (upd H P (.tbl (ps ++ #[rawInt pos.line, rawInt pos.col, .ref cd]))) cd (CodeO cd (X.env.qual ++ "<lambda>"))) := by
      intro b o e nt
      refine keepN b o e fun z => ?_
      rw [z, tP] at e
      exact nt ps (Option.some.inj e).symm
    have list3 : (ps ++ #[rawInt pos.line, rawInt pos.col, .ref cd]).toList = ps.toList ++ [rawInt pos.line, rawInt pos.col, .ref cd] := by simp
    refine fin g.objs.size _ _ J ⟨ext, fun b nb => ?_, fun p hp => ?_, ⟨cd, _, ctv, Heap.get?_push_size _ rfl, upd_same⟩, ?_⟩
    · by_cases e1 : b = cd
      · rw [e1, upd_same]; exact fun z => by cases z
      · rw [upd_ne e1]
        by_cases e2 : b = P
        · rw [e2, upd_same]; exact fun z => by cases z
        · rw [upd_ne e2]; exact nb
    · obtain ⟨qs, q1, q2, q3⟩ := ts p hp
      have old : ∀ {l : List Value} {pos' : Pos} {cv : Value}, (∀ (pos : Pos) (cv : Value), codeAmong pos l = some cv → ∃ c, cv = .ref c ∧ H c = some (CodeO c p.2)) → codeAmong pos' l = some cv → ∃ c, cv = .ref c ∧ upd (upd H P (.tbl (ps ++ #[rawInt pos.line, rawInt pos.col, .ref cd]))) cd (CodeO cd (X.env.qual ++ "<lambda>")) c = some (CodeO c p.2) := by
        intro l pos' cv all e
        obtain ⟨c, e1, e2⟩ := all pos' cv e
        exact ⟨c, e1, ext c _ e2 codeO_ne⟩
      by_cases e : p.1 = P
      · have nm := one p hp e
        rw [e] at q1 ⊢
        rw [tP] at q1
        cases q1
        refine ⟨_, by rw [upd_ne cP, upd_same], by rw [list3]; exact PySem.TriplesOk_snoc _ _ _ _ q2, fun pos' cv h => ?_⟩
        rw [list3] at h
        rcases among_app _ q2 h with h | h
        · exact old q3 h
        · exact ⟨cd, h, by rw [nm]; exact upd_same⟩
      · exact ⟨qs, keepN _ _ q1 e, q2, fun pos' cv h => old q3 h⟩
    · have n1 : g.objs.size ≠ cd := Nat.ne_of_gt c1
      have n2 : g.objs.size ≠ P := Nat.ne_of_gt (Nat.lt_of_lt_of_le (Heap.lt_size tP') gsz)
      rw [upd_ne n1, upd_ne n2]
      exact I.hok.fresh gsz
  · -- known
    obtain ⟨cd, rfl, kc⟩ := codes pos cv hit
    refine PySem.W.kla_makeFunctionHit (mg := X.mg) (closure_ok fr) I.ok.glob (I.mod.glob.keeps I.bk) hc (tab.code.keeps I.bk) tP' ok3 hit (tab.bm.keeps I.bk) ?_
    intro ctv g tk grow gsz
    refine fin g.objs.size H _ (I.kept (t' := tk) fun b o e => Heap.get?_push_of_some _ (grow b o e)) ⟨fun _ _ e _ => e, fun _ nb => nb, ts, ⟨cd, _, ctv, Heap.get?_push_size _ rfl, kc⟩, I.hok.fresh gsz⟩
end
/-! ### keys -/
section
open PySem.W
mutual
theorem pur_reads {h : Heap} : ∀ (d : D), D.pur d = true → ∀ {u : Value} {as : List Addr}, Reads h u (toP d) as → as = []
  | .int i, _, u, as, r => by
    have r : Reads h u (.int i) as := r
    cases r
    rfl
  | .tup ds, hp, u, as, r => by
    have r : Reads h u (.tuple (toPs ds)) as := r
    cases r with
    | tuple _ _ _ ra => exact purs_reads ds (by simpa [D.pur] using hp) ra
  | .non, hp, _, _, _ => by simp [D.pur] at hp
  | .bl _, hp, _, _, _ => by simp [D.pur] at hp
  | .str _, hp, _, _, _ => by simp [D.pur] at hp
  | .lst _, hp, _, _, _ => by simp [D.pur] at hp
  | .fz _, hp, _, _, _ => by simp [D.pur] at hp
  | .emp, hp, _, _, _ => by simp [D.pur] at hp
theorem purs_reads {h : Heap} : ∀ (ds : List D), D.purs ds = true → ∀ {us : List Value} {as : List Addr}, ReadsAll h us (toPs ds) as → as = []
  | [], _, us, as, r => by
    have r : ReadsAll h us [] as := r
    cases r
    rfl
  | d :: ds, hp, us, as, r => by
    have r : ReadsAll h us (toP d :: toPs ds) as := r
    simp only [D.purs, Bool.and_eq_true] at hp
    cases r with
    | cons r1 r2 =>
      rw [pur_reads d hp.1 r1, purs_reads ds hp.2 r2]
      rfl
end
theorem sort_is2 {bs : List (Nat × D)} (h : ∀ b ∈ bs, D.pur b.2 = true) : bs.mergeSort (dataLe false fun b => toP b.2) = srtB (fun a b : Nat × D => leD a.2 b.2) bs := by
  have T : TotalLe (dataLe false fun b : Nat × D => toP b.2) := sortLe_total _ _ _
  rw [← sort_unique T (srtB_pw T bs) (fun c => srtB_filter T bs)]
  exact srtB_congr fun a ha b hb => leD_toP (h a ha) (h b hb)
theorem zip_at {ds : List D} {x : Nat × D} (h : x ∈ (List.range ds.length).zip ds) : ds[x.1]? = some x.2 := by
  obtain ⟨i, hi⟩ := List.mem_iff_getElem?.mp h
  rw [List.getElem?_zip_eq_some] at hi
  obtain ⟨h1, h2⟩ := hi
  have := (List.getElem?_eq_some_iff.mp h1).2
  rw [List.getElem_range] at this
  rw [← this]
  exact h2
theorem each_of {β : Type} {R : Value → β → Prop} : ∀ {us : List Value} {bs : List β}, us.length = bs.length → (∀ (i : Nat) (u : Value) (b : β), us[i]? = some u → bs[i]? = some b → R u b) → EachIs R us bs
  | [], [], _, _ => .nil
  | [], _ :: _, h, _ => by simp at h
  | _ :: _, [], h, _ => by simp at h
  | u :: us, b :: bs, h, k => .cons (k 0 u b rfl rfl) (each_of (by simpa using h) fun i v c h1 h2 => k (i + 1) v c (by simpa using h1) (by simpa using h2))
end
/-! ### the lambda's text -/
structure LamSc (y : Str) (scope : Scope) : Prop where
  kind : scope.kind = .function
  co : scope.isCoroutine = false
  gen : scope.isGenerator = false
  at_ : scope.names.lookup ("at" : Str) = some .local
  fy : scope.names.lookup y = some .free
  nc : ∀ z ∈ scope.names, z.2 ≠ .cell
  fr : ∀ z ∈ scope.names, z.2 = .free → z.1 = y
theorem lamSc_i {y : Str} {scope : Scope} (h : lamScB y scope = true) : LamSc y scope := by
  unfold lamScB at h
  simp only [Bool.and_eq_true, Bool.not_eq_true', decide_eq_true_eq, List.all_eq_true] at h
  obtain ⟨h1, h2, h3, h4, h5, h6⟩ := h
  refine ⟨?_, h2, h3, h4, h5, fun z hz e => ?_, fun z hz e => ?_⟩
  · split at h1
    · assumption
    · cases h1
  · have := h6 z hz
    rw [e] at this
    cases this
  · have := h6 z hz
    rw [e] at this
    exact of_decide_eq_true this
def tRank (K : PySem.W.Frag) (T : List (Addr × Str)) (i : Nat) (ta : TE) : TE := fun σ H Q => ta σ H fun x H1 => ∃ (O : Addr → Prop) (d1 d2 d : D) (v : V), Rp K O H1 d1 x ∧ σ[i]? = some (some v) ∧ Rp K O H1 d2 v ∧ rankop d1 d2 = some d ∧ Tabs T H1 ∧
  ∀ (H2 : Hp) (q : V), ExtN H1 H2 → (∀ b, H1 b ≠ none → H2 b ≠ none) → Tabs T H2 → (∀ O' : Addr → Prop, (∀ a, O' a → H1 a ≠ none) → Rp K O' H2 d q) → Q q H2
theorem rankop_i {d1 d2 d : D} (h : rankop d1 d2 = some d) : ∃ ds, d1 = .int (ds.length : Nat) ∧ d2 = .lst ds ∧ ds.length ≤ 100000 ∧ srtOk ds = true ∧ d = .lst (rankD ds) := by
  cases d1 with
  | int n => cases d2 with
    | lst ds =>
      simp only [rankop] at h
      split at h
      · rename_i c
        cases h
        exact ⟨ds, by rw [c.1], rfl, c.2.1, c.2.2, rfl⟩
      · cases h
    | _ => cases h
  | _ => cases h
theorem Rp.extN {K : PySem.W.Frag} {O : Addr → Prop} {H H' : Hp} (x : ExtN H H') {d : D} {v : V} (h : Rp K O H d v) : Rp K O H' d v :=
  Rp.mono (S := fun _ => False) ⟨fun a o e nt _ => x a o e nt, fun _ z => z.elim⟩ (fun _ z => z.elim) (fun b q => .inl q) h
theorem Rps.extN {K : PySem.W.Frag} {O : Addr → Prop} {H H' : Hp} (x : ExtN H H') {d : List D} {v : List V} (h : Rps K O H d v) : Rps K O H' d v :=
  Rps.mono (S := fun _ => False) ⟨fun a o e nt _ => x a o e nt, fun _ z => z.elim⟩ (fun _ z => z.elim) (fun b q => .inl q) h
theorem rps_idx {K : PySem.W.Frag} {O : Addr → Prop} {H : Hp} : ∀ {bs : List (Nat × D)}, Rps K O H (bs.map fun p => D.int ((p.1 : Nat) : Int)) (bs.map fun p => V.int ((p.1 : Nat) : Int))
  | [] => Rps.nil
  | b :: bs => .cons (.int _) rps_idx
section
variable {X : Cx} {T : List (Addr × Str)} {c P : Addr} {scope : Scope} {a : PySem.Expr} {ta : TE} {y : Str} {i : Nat} {p p2 p3 pp px py pb lpos kpos cpos : Pos}
theorem pe_rank (hg : Gl X "sorted") (hm : X.mg "sorted" = none) (hg2 : Gl X "range") (hm2 : X.mg "range" = none) (ha : PE X a ta) (hc : X.calm = true) (hu : X.A.units + 65 < cLine) (hdp : X.A.depth < recursionLimit) (na : starEach [a] X.env = (false, eval a X.env) :: starEach [] X.env)
    (tab : TabB X.base X.mg c P) (hco : X.env.code = .ref c) (mem : (P, X.env.qual ++ "<lambda>") ∈ T) (one : ∀ p ∈ T, p.1 = P → p.2 = X.env.qual ++ "<lambda>")
    (hN : X.N[i]? = some y) (hcell : X.env.scope.names.lookup y = some .cell) (by_ : badName y = false) (L : LamSc y scope) :
    PE X (.Call (.Name "sorted" p) [.Call (.Name "range" p2) [a] [] p3] [⟨some "key", .Lambda (onePar "at" pp) (.Subscript (.Name y py) (.Name "at" px) pb) scope lpos, kpos⟩] cpos) (tRank X.K T i ta) := by
  refine ⟨fun pins s σ H Q I h => ?_⟩
  refine wpAny_Call_Name_kw (ld_blt I hg hm boot_sorted ?_)
  refine PyProof.Rows.callWith_kw (PyProof.Rows.args_cons ?_ rfl) rfl rfl rfl rfl
  refine Call_ (ld_blt I hg2 hm2 boot_range ?_)
  refine PyProof.Rows.callWith_type1 (PyProof.Rows.args_cons (thn (ha.run pins s σ H _ I h) fun v s1 ⟨x, H1, I1, r1, q1⟩ => PyProof.Rows.args_nil ?_) na) na rfl
  obtain ⟨O, d1, d2, d, yv, hx, hs, hy, hr, ts, fin⟩ := q1
  obtain ⟨ds, rfl, rfl, l1, l2, rfl⟩ := rankop_i hr
  obtain ⟨t, rfl⟩ : ∃ t, v = .int ((ds.length : Nat) : Int) t := by
    rw [hx.unint] at r1
    exact r1
  refine call_range_1 (PyProof.Rows.args_nil ?_)
  -- the range stands; it is kept in mind
  have I2 := I1.kept (t' := s1.toks + 1 + 1) (h' := s1.heap.push { cls := .type "range", data := .fields #[.int 0 s1.toks, .int ((ds.length : Nat) : Int) t, .int 1 (s1.toks + 1)] }) (fun b o e => Heap.get?_push_of_some _ e)
  have isR := IsRange.new s1.heap 0 ((ds.length : Nat) : Int) 1 s1.toks t (s1.toks + 1)
  have nr : H1 s1.heap.objs.size = none := I1.hok.fresh (Nat.le_refl _)
  have I3 := I2.pinned (fp := [s1.heap.objs.size]) (fun b hb => by
    rw [List.mem_singleton.mp hb]
    exact I1.fpOk (Nat.le_refl _) nr |> fun z => z) (fun b hb => by
    rw [List.mem_singleton.mp hb]
    exact ⟨_, isR, fun v z => by cases z⟩)
  have fr : ∀ z ∈ scope.names, z.2 = .free → ∃ c, X.env.cells.lookup z.1 = some c := fun z hz e => by
    rw [L.fr z hz e]
    exact I1.ok.has _ (.inl hcell)
  refine wpAny_evalAll_cons (wpAny_bind (lam_made (T := T) I3 tab hco mem one ts dflt_one fr fun f H2 s2 J M => wpAny_bind (wpAny_standAt (wpAny_pure (wpAny_evalAll_nil ?_)))))
  show wpAny _ _ (call (.builtin "sorted") [.ref s1.heap.objs.size] [(Str.ofString "key", .ref f)]) _ _ _
  have isR2 : IsRange s2.heap s1.heap.objs.size 0 ((ds.length : Nat) : Int) 1 s1.toks t (s1.toks + 1) := (J.pin _ (List.mem_append_right _ (List.mem_append_right _ (mem_pinsAt (b := s1.heap.objs.size) List.mem_cons_self isR)))).1
  -- what stands at y
  have hy2 := Rp.extN M.ext hy
  obtain ⟨La, vs, rfl, nO, sl, rs⟩ := hy2.unlst
  obtain ⟨its, rv, pl, hz⟩ := J.list (.inl (.inl sl))
  obtain ⟨m, hns, hloc⟩ := J.loc
  obtain ⟨yu, ry, lk⟩ := hloc i y (.ref La) hN hs (.inr (.inl hcell))
  cases (show yu = .ref La from ry)
  obtain ⟨cy, cl1, cl2⟩ : ∃ cy, X.env.cells.lookup y = some cy ∧ s2.heap.IsCell cy (some (.ref La)) := by
    rcases lk with ⟨k, _⟩ | ⟨_, cy, e1, e2⟩
    · have k : X.env.scope.names.lookup y = some .local := k
      rw [hcell] at k
      cases k
    · exact ⟨cy, e1, e2⟩
  obtain ⟨c', pm, ctv, ob, co⟩ := M.ob
  have clo : (cloFrom X.env.cells scope.names []).lookup y = some cy := by
    obtain ⟨cz, ez⟩ := mem_lookup (cloFrom_has (cells := X.env.cells) (acc := []) (PySem.mem_of_lookup L.fy))
    rcases cloFrom_mem (PySem.mem_of_lookup ez) with hm | ⟨h1, h2⟩
    · cases hm
    · rw [ez, h2, cl1]
      rfl
  obtain ⟨⟨oc, ovs, ot, ho1, ho2, ho3⟩, _, _⟩ := J.hok c' _ co
  obtain ⟨k1, k2, k3, k4⟩ := srtOk_i l2
  have hzl : ((List.range ds.length).zip ds).length = ds.length := by rw [List.length_zip, List.length_range, Nat.min_self]
  have mem2 : ∀ x : Nat × D, x ∈ (List.range ds.length).zip ds → x.2 ∈ ds := fun x hx => List.mem_of_getElem? (zip_at hx)
  have mapk : ((List.range ds.length).zip ds).map (fun b => toP b.2) = ds.map toP := by
    rw [show (fun b : Nat × D => toP b.2) = toP ∘ Prod.snd from rfl, ← List.map_map, List.map_snd_zip (by rw [List.length_range]; exact Nat.le_refl _)]
  refine sorted_range_key (β := Nat × D) (bs := (List.range ds.length).zip ds) (n := ds.length) (R := fun v x => ∃ t, v = .int ((x.1 : Nat) : Int) t) (fun b => toP b.2) (I1.ok.hd hc) isR2 (by omega) hzl (fun us hl hi => ?_) (by rw [mapk]; exact k3) (by rw [mapk]; exact k4) (fun x hx => ?_) (fun v x hv hx g tk kp => ?_) fun out cc g1 g tk1 tk e1 e2 hD lo eo => ?_
  · refine each_of (by rw [hl, hzl]) fun j u b q1 q2 => ?_
    obtain ⟨t, z⟩ := hi j u q1
    rw [List.getElem?_zip_eq_some] at q2
    have := (List.getElem?_eq_some_iff.mp q2.1).2
    rw [List.getElem_range] at this
    exact ⟨t, by rw [z, this]⟩
  · have := (sh_lay (shs_mem k1 x.2 (mem2 x hx))).2
    omega
  · obtain ⟨t, rfl⟩ := hv
    have hd := zip_at hx
    obtain ⟨w, w1, w2⟩ := rs.get hd
    obtain ⟨u, u1, u2⟩ := rv.get w1
    obtain ⟨as, rd⟩ := Dp.reads J (toP x.2) w u (w2.dp (shs_mem k1 x.2 (mem2 x hx))) u2
    have := pur_reads x.2 (purs_mem k2 x.2 (mem2 x hx)) rd
    subst this
    have xl : x.1 < ds.length := (List.getElem?_eq_some_iff.mp hd).1
    refine lam_turn (s := { s2 with heap := g, toks := tk }) (A := X.A.in1.in1) hdp (kp _ _ ob) L.kind L.co L.gen L.nc L.at_ L.fy by_ ⟨c', oc, ovs, ot, rfl, kp _ _ ho1, ho2, ho3⟩ clo (cl2.keeps kp) (items := its.toArray) (let ⟨o, q, r⟩ := pl.isList; ⟨o, kp _ _ q, r⟩) (by omega) (by omega) (by simpa using u1) (J.nolimit.keeps kp) fun g' tk' kp' => ?_
    exact ⟨g', tk', rfl, kp', PyProof.Rows.Reads.keeps (fun b o q => kp' b o (kp b o q)) rd⟩
  · rw [sort_is2 fun b hb => purs_mem k2 b.2 (mem2 b hb)] at eo
    have J1 : Inv X _ σ H2 { s2 with heap := g1, toks := tk1 } := J.kept e1
    have ov : Vals (((srtB (fun a b : Nat × D => leD a.2 b.2) ((List.range ds.length).zip ds)).map fun p => V.int ((p.1 : Nat) : Int))) out := by
      clear fin lo hD
      revert eo
      generalize srtB (fun a b : Nat × D => leD a.2 b.2) ((List.range ds.length).zip ds) = bs
      intro eo
      induction eo with
      | nil => exact .nil
      | cons h _ ih => exact .cons h ih
    have hl : (((srtB (fun a b : Nat × D => leD a.2 b.2) ((List.range ds.length).zip ds)).map fun p => V.int ((p.1 : Nat) : Int))).length ≤ sizeLine := by
      rw [ov.length, lo, sizeLine_eq]
      omega
    have hn1 : H1 g1.objs.size = none := by
      cases z : H1 g1.objs.size with
      | none => rfl
      | some o => exact absurd (J1.hok.fresh (Nat.le_refl _)) (M.al _ (by rw [z]; exact fun w => by cases w))
    obtain ⟨hn, w1, H3, a1, a2, a3⟩ := new_sorted (s' := { s2 with heap := g, toks := tk }) (Q := fun v H' => Q v H') J1 e2 rfl rfl (Nat.le_refl _) hD (by simpa using ov) hl (fin _ _ (fun b o e nt => by
        rw [upd_ne (ne_of_none (M.ext b o e nt) (J1.hok.fresh (Nat.le_refl _)))]
        exact M.ext b o e nt) (fun b nb => by
        unfold upd
        split
        · exact fun z => by cases z
        · exact M.al b nb) (tabs_new M.tabs (J1.hok.fresh (Nat.le_refl _))) fun O' hO' => .lst (fun z => hO' _ z hn1) upd_same (by
        unfold rankD
        exact rps_idx))
    exact ⟨w1, H3, a1.unpinned, a2, a3⟩
end
end Ev
set_option Elab.async false
set_option linter.all false
set_option maxRecDepth 100000
set_option maxHeartbeats 4000000
set_option autoImplicit false
/-! Ev7: calls, built-ins, what is walked, targets. -/
namespace Ev
open PySem PySem.Spec PyProof.Rows L2
variable [TabT]
section
variable {RX : RXT} {Γ : Gam} {C : Ctx} {gv : Nat → V} {K : PySem.W.Frag} {W : WX} {x y z : PySem.Expr} {fa fb fc : Env → R D} {pos : Pos} {es : List PySem.Expr} {fs : Env → R (List D)}
theorem noStar_cons (h : noStar (y :: es) = true) : isStar y = false ∧ noStar es = true := by
  unfold noStar at h ⊢
  rw [List.all_cons] at h
  obtain ⟨h1, h2⟩ := and2 h
  exact ⟨by simpa using h1, h2⟩
def callF (C : Ctx) (f : Nat) (io : Option Nat) (fs : Env → R (List D)) : Env → R D := fun e => match ioOk io e with
    | true => (fs e).bind fun ds e => match argsOf io ds e with
      | some xs => afterCall io (C.call f xs) e
      | none => .no
    | false => .no
theorem se_call (g0 : St0 Γ C gv K) {f : Nat} {fi : FnI} {p : Pos} (hf : Γ.fns[f]? = some fi) (hg : glB Γ fi.name = true) (hst : noStar (y :: es) = true) (hs : SL RX Γ C gv K W (y :: es) fs) :
    SE RX Γ C gv K W (.Call (.Name fi.name p) (y :: es) [] pos) (callF C f none fs) := by
  obtain ⟨ts, ps, qs⟩ := hs
  refine ⟨tCallS (spF RX K C.call f fi.ps.length) (WE W) ts, fun X ok hK => ?_, fun B e σ H Q rs h => ?_⟩
  · subst hK
    obtain ⟨ad, fd, k, hm, hk, hb, hr, F⟩ := ok.call f fi hf
    obtain ⟨g1, g2, g3⟩ := ok.gl hg
    obtain ⟨n1, n2⟩ := noStar_cons hst
    exact pe_callS F hr g1 hm hk hb (fun σ => passAt ok.tk σ) (ps X ok rfl) g2 (star_cons n1) (star_any n2)
  · have h : PostE RX K W B e σ H ((fs e).bind fun ds e => afterCall none (C.call f (ds.map Sl.val)) e) Q := h
    refine qs B e σ H _ rs (Post.bind h fun ds e1 vs H1 _ rs1 _ r1 h1 => ?_)
    have hl : vs.length = fi.ps.length := by
      by_cases q : (ds.map Sl.val).length = fi.ps.length
      · rw [← q, List.length_map, r1.len]
      · rw [g0.ar f fi _ hf q] at h1
        exact h1.elim
    refine ⟨hl, Of B e1 σ, ds.map Sl.val, rs1.args r1, ?_⟩
    cases q : C.call f (ds.map Sl.val) with
    | ok d cs =>
      rw [q] at h1
      intro v H' r' st' rp
      rw [ret_vals] at r' st' rp
      obtain ⟨rs2, st2⟩ := rs1.called r'.tb st'
      exact h1 v H' rs2 st2 (Rp.mono (S := fun _ => False) ⟨fun _ _ q _ _ => q, fun _ z => z.elim⟩ (fun _ z => z.elim) (fun b q => .inl (.inl q)) rp)
    | ex ev =>
      rw [q] at h1
      intro cl dd H' r' st' rx
      obtain ⟨rs2, st2⟩ := rs1.called r'.tb st'
      exact h1 cl dd H' rs2 st2 rx
    | no =>
      rw [q] at h1
      exact h1.elim
theorem se_callIo (g0 : St0 Γ C gv K) {f i : Nat} {fi : FnI} {p q : Pos} {n : Str} (hf : Γ.fns[f]? = some fi) (hg : glB Γ fi.name = true) (hn : Γ.N[i]? = some n) (hv : visB Γ n = true) (hst : noStar es = true) (hs : SL RX Γ C gv K W es fs) :
    SE RX Γ C gv K W (.Call (.Name fi.name p) (.Name n q :: es) [] pos) (callF C f (some i) fs) := by
  obtain ⟨ts, ps, qs⟩ := hs
  refine ⟨tCallS (spF RX K C.call f fi.ps.length) (WE W) (tCons (tVar i) ts), fun X ok hK => ?_, fun B e σ H Q rs h => ?_⟩
  · subst hK
    obtain ⟨ad, fd, k, hm, hk, hb, hr, F⟩ := ok.call f fi hf
    obtain ⟨g1, g2, g3⟩ := ok.gl hg
    exact pe_callS F hr g1 hm hk hb (fun σ => passAt ok.tk σ) (pa_cons (pe_slot ok hn hv) (ps X ok rfl) (star_cons rfl)) g2 (star_cons rfl) (star_any hst)
  · have h : PostE RX K W B e σ H (callF C f (some i) fs e) Q := h
    unfold callF at h
    cases z : ioOk (some i) e with
    | false =>
      rw [z] at h
      exact h.elim
    | true =>
      rw [z] at h
      have z : (getO e i).isSome = true := z
      cases k0 : getO e i with
      | none => rw [k0] at z; cases z
      | some ds0 =>
        obtain ⟨a, vs0, w0, _⟩ := rs.ownL i ds0 (getO_own k0)
        refine ⟨.ref a, w0, ?_⟩
        refine qs B e σ H _ rs (Post.bind h fun ds e1 vs H1 _ rs1 _ r1 h1 => ?_)
        have h1 : Post RX K W B e1 σ H1 (Rp K) (match (getO e1 i).map fun cs => Sl.own cs :: ds.map Sl.val with
          | some xs => afterCall (some i) (C.call f xs) e1
          | none => .no) Q := h1
        cases k : getO e1 i with
        | none => rw [k] at h1; exact h1.elim
        | some cs =>
          rw [k] at h1
          have h1 : Post RX K W B e1 σ H1 (Rp K) (afterCall (some i) (C.call f (Sl.own cs :: ds.map Sl.val)) e1) Q := h1
          have ho := getO_own k
          obtain ⟨a', us, w1, w2, w3, w4⟩ := rs1.own i cs ho
          rw [w0] at w1
          cases w1
          show spF RX K C.call f fi.ps.length (V.ref a :: vs) H1 Q (WE W σ)
          have hl : (V.ref a :: vs).length = fi.ps.length := by
            by_cases q : (Sl.own cs :: ds.map Sl.val).length = fi.ps.length
            · rw [← q, List.length_cons, List.length_cons, List.length_map, r1.len]
            · rw [g0.ar f fi _ hf q] at h1
              exact h1.elim
          refine ⟨hl, But (Of B e1 σ) a, Sl.own cs :: ds.map Sl.val, rs1.argsIo ho w0 r1, ?_⟩
          cases q : C.call f (Sl.own cs :: ds.map Sl.val) with
          | ok d cs' =>
            rw [q] at h1
            intro v H' r' st' rp
            obtain ⟨rs2, st2, res⟩ := rs1.calledIo ho w0 r' st'
            exact h1 v H' rs2 st2 (res rp)
          | ex ev =>
            rw [q] at h1
            exact h1.elim
          | no =>
            rw [q] at h1
            exact h1.elim
/-! ### built-ins -/
theorem pa_one {X : Cx} {t : TE} (h : PE X x t) (hs : isStar x = false) : PA X [x] (tCons t tNil) := pa_cons h pa_nil (star_cons hs)
theorem blt_of {X : Cx} (ok : Ok RX Γ C gv X W) {n : Str} (h : (bltNames.contains n) = true) : X.mg n = none := ok.blt n (List.contains_iff_mem.mp h)
theorem se_prim {p : Prim} {q : Pos} (hp : onePrim p = true) (hg : glB Γ p.name = true) (hst : isStar y = false) (hs : SL RX Γ C gv K W [y] fs) : SE RX Γ C gv K W (.Call (.Name p.name q) [y] [] pos) fun e => (fs e).bind fun ds e => R.of (prim p ds) e := by
  obtain ⟨ts, ps, qs⟩ := hs
  refine ⟨tCB (rPrim K p) ts, fun X ok hK => ?_, fun B e σ H Q rs h => ?_⟩
  · subst hK
    obtain ⟨g1, g2, g3⟩ := ok.gl hg
    cases p with
    | len => exact pe_callB len_ok g1 (blt_of ok (by decide +kernel)) (by decide +kernel) (ps X ok rfl) g3 g2 (star_cons hst) rfl
    | abs => exact pe_callB abs_ok g1 (blt_of ok (by decide +kernel)) (by decide +kernel) (ps X ok rfl) g3 g2 (star_cons hst) rfl
    | int => exact pe_callTy int_ok g1 (blt_of ok (by decide +kernel)) (by decide +kernel) (ps X ok rfl) g3 g2 (star_cons hst) rfl
    | tuple => exact pe_callTy tuple_ok g1 (blt_of ok (by decide +kernel)) (by decide +kernel) (ps X ok rfl) g3 g2 (star_cons hst) rfl
    | sum => exact pe_callB (sum_ok ok.calm) g1 (blt_of ok (by decide +kernel)) (by decide +kernel) (ps X ok rfl) g3 g2 (star_cons hst) rfl
    | min1 => exact pe_callB (min_ok ok.calm ok.hu) g1 (blt_of ok (by decide +kernel)) (by decide +kernel) (ps X ok rfl) g3 g2 (star_cons hst) rfl
    | max1 => exact pe_callB (max_ok ok.calm) g1 (blt_of ok (by decide +kernel)) (by decide +kernel) (ps X ok rfl) g3 g2 (star_cons hst) rfl
    | sorted => exact pe_callB (sorted_ok ok.hu) g1 (blt_of ok (by decide +kernel)) (by decide +kernel) (ps X ok rfl) g3 g2 (star_cons hst) rfl
    | list => exact pe_callTy list_ok g1 (blt_of ok (by decide +kernel)) (by decide +kernel) (ps X ok rfl) g3 g2 (star_cons hst) rfl
    | _ => cases hp
  · refine qs B e σ H _ rs (Post.bind h fun ds e1 vs H1 _ rs1 _ r1 h1 => ?_)
    obtain ⟨d, hd, q⟩ := Post.vok rs1 h1
    exact ⟨Of B e1 σ, ds, d, fun a => rs1.al a, r1, hd, q⟩
theorem se_prim2 {p : Prim2} {q : Pos} (hg : glB Γ p.name = true) (s1 : isStar y = false) (s2 : isStar z = false) (ha : SE RX Γ C gv K W y fa) (hb : SE RX Γ C gv K W z fb) :
    SE RX Γ C gv K W (.Call (.Name p.name q) [y, z] [] pos) fun e => (fa e).bind fun a e => (fb e).bind fun b e => R.of (prim2 p a b) e := by
  obtain ⟨ta, pa, qa⟩ := ha
  obtain ⟨tb, pb, qb⟩ := hb
  refine ⟨tCB (rPrim2 K p) (tCons ta (tCons tb tNil)), fun X ok hK => ?_, fun B e σ H Q rs h => ?_⟩
  · subst hK
    obtain ⟨g1, g2, g3⟩ := ok.gl hg
    have pp : PA X [y, z] (tCons ta (tCons tb tNil)) := pa_cons (pa X ok rfl) (pa_cons (pb X ok rfl) pa_nil (star_cons s2)) (star_cons s1)
    have sa : (backTo pos (starEach [z] X.env)).any (·.1) = false := star_any (by unfold noStar; simp [s2])
    cases p with
    | min2 => exact pe_callB (min2_ok ok.calm) g1 (blt_of ok (by decide +kernel)) (by decide +kernel) pp g3 g2 (star_cons s1) sa
    | max2 => exact pe_callB (max2_ok ok.calm) g1 (blt_of ok (by decide +kernel)) (by decide +kernel) pp g3 g2 (star_cons s1) sa
  · refine qa B e σ H _ rs (Post.bind h fun d1 e1 v1 H1 _ rs1 _ r1 h1 => ?_)
    refine qb B e1 σ H1 _ rs1 (Post.bind h1 fun d2 e2 v2 H2 _ rs2 st2 r2 h2 => ?_)
    obtain ⟨d, hd, q⟩ := Post.vok rs2 h2
    exact ⟨Of B e2 σ, d1, d2, d, v1, v2, rfl, rs1.keep st2 r1, r2, hd, q⟩
theorem se_rev {k : Nat} {p1 p2 p3 : Pos} (ha : SE RX Γ C gv K W x fa) : SE RX Γ C gv K W (.Subscript x (.Slice none none (some (.UnaryOp .USub (.Constant (.int 1) k p1) p2)) p3) pos) fun e => (fa e).bind fun a e => R.of (revop a) e := by
  obtain ⟨ta, pa, qa⟩ := ha
  refine ⟨tRev K ta, fun X ok hK => by subst hK; exact pe_rev (pa X ok rfl), fun B e σ H Q rs h => ?_⟩
  refine qa B e σ H _ rs (Post.bind h fun d1 e1 v1 H1 _ rs1 _ r1 h1 => ?_)
  obtain ⟨d, hd, q⟩ := Post.vok rs1 h1
  cases d1 with
  | lst ds =>
    cases hd
    obtain ⟨a, vs, e, _, s1, r⟩ := r1.unlst
    exact ⟨a, vs, e, .inl ⟨.inl (.inl s1), fun p hp => q.newL (fun a => rs1.al a) r.rev hp⟩⟩
  | tup ds =>
    cases hd
    obtain ⟨a, vs, e, s1, r⟩ := r1.untup
    exact ⟨a, vs, e, .inr ⟨s1, fun p hp => q.newT r.rev hp⟩⟩
  | _ => cases hd
theorem se_rev2 {k k0 : Nat} {p0 p1 p2 p3 : Pos} (ha : SE RX Γ C gv K W x fa) : SE RX Γ C gv K W (.Subscript x (.Slice (some (.Constant (.int 1) k0 p0)) none (some (.UnaryOp .USub (.Constant (.int 1) k p1) p2)) p3) pos) fun e => (fa e).bind fun a e => R.of (rev2op a) e := by
  obtain ⟨ta, pa, qa⟩ := ha
  refine ⟨tRev2 K ta, fun X ok hK => by subst hK; exact pe_rev2 (pa X ok rfl), fun B e σ H Q rs h => ?_⟩
  refine qa B e σ H _ rs (Post.bind h fun d1 e1 v1 H1 _ rs1 _ r1 h1 => ?_)
  obtain ⟨d, hd, q⟩ := Post.vok rs1 h1
  cases d1 with
  | tup ds =>
    obtain ⟨a, vs, e, s1, r⟩ := r1.untup
    match ds, hd with
    | d1 :: d2 :: ds, hd =>
      cases hd
      obtain ⟨v1, r', e1, k1, r⟩ := r.uncons
      obtain ⟨v2, r'', e2, k2, r⟩ := r.uncons
      subst e1 e2
      exact ⟨a, v1, v2, r'', e, s1, fun p hp => q.newT (.cons k2 (.cons k1 .nil)) hp⟩
    | [_], hd => cases hd
    | [], hd => cases hd
  | _ => cases hd
theorem rps_rng {O : Addr → Prop} {H : Hp} : ∀ (n : Nat) (lo : Int), Rps K O H (range_ lo n) ((List.range n).map fun i => V.int (lo + (i : Nat)))
  | 0, _ => .nil
  | n + 1, lo => by
    rw [List.range_succ_eq_map, List.map_cons, List.map_map]
    have e : (fun i : Nat => V.int (lo + (i : Nat))) ∘ Nat.succ = fun i : Nat => V.int (lo + 1 + (i : Nat)) := by
      funext i
      show V.int (lo + ((i + 1 : Nat) : Int)) = _
      congr 1
      omega
    rw [e, show lo + ((0 : Nat) : Int) = lo by omega]
    exact .cons (.int lo) (rps_rng n (lo + 1))
theorem se_lset {q q2 p2 : Pos} (hg : glB Γ "len" = true) (hg2 : glB Γ "set" = true) (hst : isStar x = false) (ha : SE RX Γ C gv K W x fa) : SE RX Γ C gv K W (.Call (.Name "len" q) [.Call (.Name "set" q2) [x] [] p2] [] pos) fun e => (fa e).bind fun a e => R.of (frm .lset a) e := by
  obtain ⟨ta, pa, qa⟩ := ha
  refine ⟨tLset K ta, fun X ok hK => ?_, fun B e σ H Q rs h => ?_⟩
  · subst hK
    obtain ⟨g1, g2, g3⟩ := ok.gl hg
    obtain ⟨k1, k2, k3⟩ := ok.gl hg2
    exact pe_lset g1 (blt_of ok (by decide +kernel)) k1 (blt_of ok (by decide +kernel)) (pa X ok rfl) ok.calm (star_cons hst)
  · refine qa B e σ H _ rs (Post.bind h fun d1 e1 v1 H1 _ rs1 _ r1 h1 => ?_)
    obtain ⟨d, hd, q⟩ := Post.vok rs1 h1
    cases d1 with
    | tup ds =>
      obtain ⟨a, vs, e, s1, r⟩ := r1.untup
      simp only [frm] at hd
      cases z : intsOf ds with
      | none => rw [z] at hd; cases hd
      | some ns =>
        rw [z] at hd
        simp only at hd
        split at hd
        · rename_i c
          cases hd
          rw [intsOf_eq z] at r
          rw [r.ints_eq] at s1
          exact ⟨a, ns, e, .inr s1, c, q.same (.int _)⟩
        · cases hd
    | lst ds =>
      obtain ⟨a, vs, e, _, s1, r⟩ := r1.unlst
      simp only [frm] at hd
      cases z : intsOf ds with
      | none => rw [z] at hd; cases hd
      | some ns =>
        rw [z] at hd
        simp only at hd
        split at hd
        · rename_i c
          cases hd
          rw [intsOf_eq z] at r
          rw [r.ints_eq] at s1
          exact ⟨a, ns, e, .inl (.inl (.inl s1)), c, q.same (.int _)⟩
        · cases hd
    | _ => cases hd
theorem se_lrng {q q2 p2 : Pos} (hg : glB Γ "list" = true) (hg2 : glB Γ "range" = true) (hst : isStar x = false) (ha : SE RX Γ C gv K W x fa) : SE RX Γ C gv K W (.Call (.Name "list" q) [.Call (.Name "range" q2) [x] [] p2] [] pos) fun e => (fa e).bind fun a e => R.of (frm .lrng a) e := by
  obtain ⟨ta, pa, qa⟩ := ha
  refine ⟨tLstRg (tRg1 ta), fun X ok hK => ?_, fun B e σ H Q rs h => ?_⟩
  · subst hK
    obtain ⟨g1, g2, g3⟩ := ok.gl hg
    obtain ⟨k1, k2, k3⟩ := ok.gl hg2
    exact pe_listRg ok.calm g1 (blt_of ok (by decide +kernel)) (prg_1 k1 (blt_of ok (by decide +kernel)) (pa X ok rfl) (star_cons hst)) (star_cons rfl)
  · refine qa B e σ H _ rs (Post.bind h fun d1 e1 v1 H1 _ rs1 _ r1 h1 => ?_)
    obtain ⟨d, hd, q⟩ := Post.vok rs1 h1
    cases d1 with
    | int n =>
      simp only [frm] at hd
      split at hd
      · rename_i c
        cases hd
        refine ⟨n, r1.unint, RgOk.of_le (by omega) (by omega) (by omega) (by omega), fun p hp => ?_⟩
        have r := rps_rng (K := K) (O := Of B e1 σ) (H := H1) n.toNat 0
        have e2 : rgV 0 n = (List.range n.toNat).map fun i => V.int ((0 : Int) + (i : Nat)) := by
          unfold rgV
          rw [Int.sub_zero]
        rw [e2]
        exact q.newL (fun a => rs1.al a) r hp
      · cases hd
    | _ => cases hd
theorem se_trng {q q2 p2 : Pos} (hg : glB Γ "tuple" = true) (hg2 : glB Γ "range" = true) (hst : isStar x = false) (ha : SE RX Γ C gv K W x fa) : SE RX Γ C gv K W (.Call (.Name "tuple" q) [.Call (.Name "range" q2) [x] [] p2] [] pos) fun e => (fa e).bind fun a e => R.of (frm .trng a) e := by
  obtain ⟨ta, pa, qa⟩ := ha
  refine ⟨tTupRg (tRg1 ta), fun X ok hK => ?_, fun B e σ H Q rs h => ?_⟩
  · subst hK
    obtain ⟨g1, g2, g3⟩ := ok.gl hg
    obtain ⟨k1, k2, k3⟩ := ok.gl hg2
    exact pe_tupRg ok.calm g1 (blt_of ok (by decide +kernel)) (prg_1 k1 (blt_of ok (by decide +kernel)) (pa X ok rfl) (star_cons hst)) (star_cons rfl)
  · refine qa B e σ H _ rs (Post.bind h fun d1 e1 v1 H1 _ rs1 _ r1 h1 => ?_)
    obtain ⟨d, hd, q⟩ := Post.vok rs1 h1
    cases d1 with
    | int n =>
      simp only [frm] at hd
      split at hd
      · rename_i c
        cases hd
        refine ⟨n, r1.unint, RgOk.of_le (by omega) (by omega) (by omega) (by omega), fun p hp => ?_⟩
        have r := rps_rng (K := K) (O := Of B e1 σ) (H := H1) n.toNat 0
        have e2 : rgV 0 n = (List.range n.toNat).map fun i => V.int ((0 : Int) + (i : Nat)) := by
          unfold rgV
          rw [Int.sub_zero]
        rw [e2]
        exact q.newT r hp
      · cases hd
    | _ => cases hd
theorem se_trng2 {y : PySem.Expr} {fb : Env → R D} {q q2 p2 : Pos} (hg : glB Γ "tuple" = true) (hg2 : glB Γ "range" = true) (s1 : isStar x = false) (s2 : isStar y = false) (ha : SE RX Γ C gv K W x fa) (hb : SE RX Γ C gv K W y fb) :
    SE RX Γ C gv K W (.Call (.Name "tuple" q) [.Call (.Name "range" q2) [x, y] [] p2] [] pos) fun e => (fa e).bind fun a e => (fb e).bind fun b e => R.of (trng2op a b) e := by
  obtain ⟨ta, pa, qa⟩ := ha
  obtain ⟨tb, pb, qb⟩ := hb
  refine ⟨tTupRg (tRg2 ta tb), fun X ok hK => ?_, fun B e σ H Q rs h => ?_⟩
  · subst hK
    obtain ⟨g1, g2, g3⟩ := ok.gl hg
    obtain ⟨k1, k2, k3⟩ := ok.gl hg2
    exact pe_tupRg ok.calm g1 (blt_of ok (by decide +kernel)) (prg_2 k1 (blt_of ok (by decide +kernel)) (pa X ok rfl) (pb X ok rfl) (star_cons s1) (star_cons s2) (star_any (by unfold noStar; simp [s2]))) (star_cons rfl)
  · refine qa B e σ H _ rs (Post.bind h fun d1 e1 v1 H1 _ rs1 _ r1 h1 => ?_)
    refine qb B e1 σ H1 _ rs1 (Post.bind h1 fun d2 e2 v2 H2 _ rs2 st2 r2 h2 => ?_)
    obtain ⟨d, hd, q⟩ := Post.vok rs2 h2
    cases d1 with
    | int i =>
      cases d2 with
      | int j =>
        simp only [trng2op] at hd
        split at hd
        · rename_i c
          cases hd
          refine ⟨i, j, r1.unint, r2.unint, RgOk.of_le (by omega) (by omega) (by omega) (by omega), fun p hp => ?_⟩
          exact q.newT (rps_rng (K := K) (O := Of B e2 σ) (H := H2) (j - i).toNat i) hp
        · cases hd
      | _ => cases hd
    | _ => cases hd
theorem posOf_some {d : D} : ∀ {ds : List D} {j : Nat}, posOf d ds = some j → ∃ z, ds[j]? = some z ∧ D.eqv z d = true ∧ ∀ m z', m < j → ds[m]? = some z' → D.eqv z' d = false
  | [], j, h => by cases h
  | y :: ds, j, h => by
    simp only [posOf] at h
    split at h
    · rename_i c
      cases h
      exact ⟨y, rfl, c, fun m z' hm => absurd hm (Nat.not_lt_zero _)⟩
    · rename_i c
      cases q : posOf d ds with
      | none => rw [q] at h; cases h
      | some k =>
        rw [q] at h
        cases h
        obtain ⟨z, z1, z2, z3⟩ := posOf_some q
        refine ⟨z, z1, z2, fun m z' hm hz => ?_⟩
        cases m with
        | zero => cases hz; cases w : D.eqv y d with
          | true => exact absurd w c
          | false => rfl
        | succ m =>
          have hm : m + 1 < k + 1 := hm
          exact z3 m z' (by omega) hz
theorem toPs_get : ∀ {ds : List D} {j : Nat}, (toPs ds)[j]? = (ds[j]?).map toP
  | [], j => by simp [toPs]
  | d :: ds, 0 => by simp [toPs]
  | d :: ds, j + 1 => by simp only [toPs, List.getElem?_cons_succ]; exact toPs_get
theorem shs_at : ∀ {ds : List D} {n j : Nat} {z : D}, D.shs (n + 1) ds = true → ds[j]? = some z → D.sh n z = true
  | [], _, _, _, _, h => by cases h
  | d :: ds, n, 0, z, h, q => by
    cases q
    simp only [D.shs, Bool.and_eq_true] at h
    exact h.1
  | d :: ds, n, j + 1, z, h, q => by
    simp only [D.shs, Bool.and_eq_true] at h
    exact shs_at h.2 q
theorem se_idx {y z : PySem.Expr} {fb : Env → R D} {ap cp : Pos} (hz : (∃ n p, z = .Name n p) ∨ ∃ f x0 xs ks p, z = .Call f (x0 :: xs) ks p) (hs : isStar y = false) (hl : (ap.endLine == cp.line) = true) (ha : SE RX Γ C gv K W z fa) (hb : SE RX Γ C gv K W y fb) :
    SE RX Γ C gv K W (.Call (.Attribute z "index" ap) [y] [] cp) fun e => (fa e).bind fun x e => match x with
    | .lst ds => (fb e).bind fun y e => R.of (idxop ds y) e
    | _ => .no := by
  obtain ⟨ta, pa, qa⟩ := ha
  obtain ⟨tb, pb, qb⟩ := hb
  refine ⟨tBM K "list" (rIndexD K) ta (tCons tb tNil), fun X ok hK => ?_, fun B e σ H Q rs h => ?_⟩
  · subst hK
    refine pe_bm PySem.F.plainAttrs_list PySem.F.slot_list_index PySem.F.type_list_index (mt_indexD ok.hu) (pa X ok rfl) (pa_one (pb X ok rfl) hs) (by rcases hz with ⟨_, _, rfl⟩ | ⟨g, _, _, _, _, rfl⟩ <;> first | rfl | (cases g <;> rfl)) ?_ hl (star_cons hs) rfl
    rw [star_cons hs]
    rfl
  · refine qa B e σ H _ rs (Post.bind h fun d1 e1 v1 H1 _ rs1 _ r1 h1 => ?_)
    cases d1 with
    | lst ds =>
      obtain ⟨a, vs, e', nO, w1, rr⟩ := r1.unlst
      subst e'
      refine ⟨.inl ⟨rfl, vs, .inl (.inl w1)⟩, ?_⟩
      refine qb B e1 σ H1 _ rs1 (Post.bind h1 fun d2 e2 v2 H2 _ rs2 st2 r2 h2 => ?_)
      obtain ⟨d, hd, q⟩ := Post.vok rs2 h2
      unfold idxop at hd
      split at hd
      · rename_i sh
        rw [Bool.and_eq_true] at sh
        obtain ⟨s1, s2⟩ := sh
        cases hp : posOf d2 ds with
        | none => rw [hp] at hd; cases hd
        | some j =>
          rw [hp] at hd
          cases hd
          obtain ⟨z, z1, z2, z3⟩ := posOf_some hp
          have s3 : D.shs 60 ds = true := by simpa [D.sh] using s2
          have hz := shs_at s3 z1
          have el : toP (.lst ds) = .list (toPs ds) := by simp only [toP]
          have dl := (rs1.keep st2 r1).dp s2
          have sl := sh_shaped s2
          rw [el] at dl sl
          refine ⟨a, v2, toP d2, toPs ds, j, toP z, rfl, rfl, dl, r2.dp s1, sl, sh_shaped s1, by rw [toPs_get, z1]; rfl, by rw [eqv_toP hz s1]; exact z2, fun m z' hm hz' => ?_, q.same (.int _)⟩
          rw [toPs_get] at hz'
          cases g : ds[m]? with
          | none => rw [g] at hz'; cases hz'
          | some w =>
            rw [g] at hz'
            cases hz'
            rw [eqv_toP (shs_at s3 g) s1]
            exact z3 m w hm g
      · cases hd
    | _ => exact h1.elim
theorem se_emp {p : Pos} : SE RX Γ C gv K W (.Dict [] [] p) fun e => R.ok D.emp e := by
  refine ⟨tDNewK, fun X ok hK => pe_dnewK, fun B e σ H Q rs h => fun q hq => ?_⟩
  have h : Post RX K W B e σ H (Rp K) (R.of (some D.emp) e) Q := h
  obtain ⟨d, hd, k⟩ := Post.vok rs h
  cases hd
  exact k _ _ (.inr ⟨q, _, hq, rfl⟩) (.emp upd_same)
theorem se_sset {q q2 p2 : Pos} (hg : glB Γ "sorted" = true) (hg2 : glB Γ "set" = true) (hst : isStar x = false) (ha : SE RX Γ C gv K W x fa) : SE RX Γ C gv K W (.Call (.Name "sorted" q) [.Call (.Name "set" q2) [x] [] p2] [] pos) fun e => (fa e).bind fun a e => R.of (frm .sset a) e := by
  obtain ⟨ta, pa, qa⟩ := ha
  refine ⟨tSset K ta, fun X ok hK => ?_, fun B e σ H Q rs h => ?_⟩
  · subst hK
    obtain ⟨g1, g2, g3⟩ := ok.gl hg
    obtain ⟨k1, k2, k3⟩ := ok.gl hg2
    exact pe_sset g1 (blt_of ok (by decide +kernel)) k1 (blt_of ok (by decide +kernel)) (pa X ok rfl) ok.calm ok.hu (star_cons hst)
  · refine qa B e σ H _ rs (Post.bind h fun d1 e1 v1 H1 _ rs1 _ r1 h1 => ?_)
    obtain ⟨d, hd, q⟩ := Post.vok rs1 h1
    exact ⟨_, d1, d, fun a => rs1.al a, r1, hd, q⟩
theorem se_skeys {q p2 ap cp : Pos} {n : Str} (hg : glB Γ "sorted" = true) (hl : (ap.endLine == cp.line) = true) (ha : SE RX Γ C gv K W (.Name n p2) fa) : SE RX Γ C gv K W (.Call (.Name "sorted" q) [.Call (.Attribute (.Name n p2) "keys" ap) [] [] cp] [] pos) fun e => (fa e).bind fun x e => match x with
    | .dic ds => R.of (sortK (keysD ds)) e
    | _ => .no := by
  obtain ⟨ta, pa, qa⟩ := ha
  refine ⟨tSkeys K ta, fun X ok hK => ?_, fun B e σ H Q rs h => ?_⟩
  · subst hK
    obtain ⟨g1, g2, g3⟩ := ok.gl hg
    exact pe_skeys g1 (blt_of ok (by decide +kernel)) (pa X ok rfl) ok.calm ok.hu rfl hl
  · refine qa B e σ H _ rs (Post.bind h fun d1 e1 v1 H1 _ rs1 _ r1 h1 => ?_)
    cases d1 with
    | dic ds =>
      obtain ⟨d, hd, q⟩ := Post.vok rs1 h1
      obtain ⟨a, vs, e1', _, s1, ok, r⟩ := r1.undic
      exact ⟨_, a, ds, vs, d, e1', s1, ok, r, hd, fun a => rs1.al a, q⟩
    | _ => exact h1.elim
theorem pe_ty {X : Cx} (ok : Ok RX Γ C gv X W) {n : Str} {t : String} {q : Pos} (hg : glB Γ n = true) (hb : (bltNames.contains n) = true) (hv : bootBuiltins n = some (.type t)) : PE X (.Name n q) (tC (.ty t)) := by
  obtain ⟨g1, g2, g3⟩ := ok.gl hg
  exact pe_bltn g1 (blt_of ok hb) hv rfl g3 g2
theorem nameB_i {n : Str} {ex : PySem.Expr} (h : nameB n ex = true) : ∃ q, ex = .Name n q := by
  cases ex with
  | Name x q =>
    have e : x = n := by simpa [nameB] using h
    rw [e]
    exact ⟨q, rfl⟩
  | _ => cases h
def isiF (p : Prim) (fa : Env → R D) : Env → R D := fun e => (fa e).bind fun x e => R.of (prim p [x]) e
theorem se_isi {p : Prim} {q : Pos} (hg : glB Γ "isinstance" = true) (hst : isStar y = false) (hc : clsB Γ p z = true) (ha : SE RX Γ C gv K W y fa) : SE RX Γ C gv K W (.Call (.Name "isinstance" q) [y, z] [] pos) (isiF p fa) := by
  obtain ⟨ta, pa, qa⟩ := ha
  have one : ∀ (n : Str) (t : String), (p = .isInt ∨ p = .isBool ∨ p = .isTup ∨ p = .isLst ∨ p = .isStr) → clsN p = t → nameB n z = true → glB Γ n = true → (bltNames.contains n) = true → bootBuiltins n = some (.type t) → SE RX Γ C gv K W (.Call (.Name "isinstance" q) [y, z] [] pos) (isiF p fa) := by
    intro n t hp ht hn hgn hb hv
    obtain ⟨qz, rfl⟩ := nameB_i hn
    subst ht
    refine ⟨tCB (rIsi K) (tCons ta (tCons (tC (.ty (clsN p))) tNil)), fun X ok hK => ?_, fun B e σ H Q rs h => ?_⟩
    · subst hK
      obtain ⟨g1, g2, g3⟩ := ok.gl hg
      exact pe_callB call_isi g1 (blt_of ok (by decide +kernel)) PyProof.Rows.boot_isinstance (pa_cons (pa X ok rfl) (pa_one (pe_ty ok hgn hb hv) rfl) (star_cons hst)) g3 g2 (star_cons hst) rfl
    · have h : PostE RX K W B e σ H (isiF p fa e) Q := h
      refine qa B e σ H _ rs (Post.bind h fun d e1 v H1 _ rs1 _ r1 h1 => ?_)
      obtain ⟨d', hd, q⟩ := Post.vok rs1 h1
      exact isi_ok hp r1 hd q
  cases p with
  | isInt => obtain ⟨h1, h2⟩ := and2 hc; exact one "int" "int" (.inl rfl) rfl h1 h2 (by decide +kernel) (by decide +kernel)
  | isBool => obtain ⟨h1, h2⟩ := and2 hc; exact one "bool" "bool" (.inr (.inl rfl)) rfl h1 h2 (by decide +kernel) (by decide +kernel)
  | isTup => obtain ⟨h1, h2⟩ := and2 hc; exact one "tuple" "tuple" (.inr (.inr (.inl rfl))) rfl h1 h2 (by decide +kernel) (by decide +kernel)
  | isLst => obtain ⟨h1, h2⟩ := and2 hc; exact one "list" "list" (.inr (.inr (.inr (.inl rfl)))) rfl h1 h2 (by decide +kernel) (by decide +kernel)
  | isStr => obtain ⟨h1, h2⟩ := and2 hc; exact one "str" "str" (.inr (.inr (.inr (.inr rfl)))) rfl h1 h2 (by decide +kernel) (by decide +kernel)
  | isSeq =>
    cases z with
    | Tuple zs kk qz =>
      match zs, hc with
      | [a, b], hc =>
        obtain ⟨h12, h34⟩ := and2 (show ((nameB "tuple" a && nameB "list" b) && (glB Γ "tuple" && glB Γ "list")) = true from hc)
        obtain ⟨h1, h2⟩ := and2 h12
        obtain ⟨h3, h4⟩ := and2 h34
        obtain ⟨qa', rfl⟩ := nameB_i h1
        obtain ⟨qb', rfl⟩ := nameB_i h2
        refine ⟨tCB (rIsiT K) (tCons ta (tCons (tTup (tCons (tC (.ty "tuple")) (tCons (tC (.ty "list")) tNil))) tNil)), fun X ok hK => ?_, fun B e σ H Q rs h => ?_⟩
        · subst hK
          obtain ⟨g1, g2, g3⟩ := ok.gl hg
          exact pe_callB call_isiT g1 (blt_of ok (by decide +kernel)) PyProof.Rows.boot_isinstance (pa_cons (pa X ok rfl) (pa_one (pe_tup (pa_cons (pe_ty ok h3 (by decide +kernel) (by decide +kernel)) (pa_one (pe_ty ok h4 (by decide +kernel) (by decide +kernel)) rfl) (star_cons rfl))) rfl) (star_cons hst)) g3 g2 (star_cons hst) rfl
        · have h : PostE RX K W B e σ H (isiF .isSeq fa e) Q := h
          refine qa B e σ H _ rs (Post.bind h fun d e1 v H1 _ rs1 _ r1 h1 => ?_)
          refine ⟨?_, fun tp ht => ?_⟩
          · show 2 ≤ sizeLine
            rw [sizeLine_eq]
            decide
          · obtain ⟨rs2, st2⟩ := rs1.laid (o := .tup [.ty "tuple", .ty "list"]) ht
            obtain ⟨d', hd, q⟩ := Post.vok rs2 (Post.shift st2 h1)
            exact isiT_ok (rs1.keep st2 r1) upd_same hd q
    | _ => cases hc
  | _ => cases z <;> cases hc
theorem se_rank {i : Nat} {y : Str} {scope : Scope} {q q2 p2 pp py px pb pl pk : Pos} (hg : glB Γ "sorted" = true) (hg2 : glB Γ "range" = true) (hn : Γ.N[i]? = some y) (hc : Γ.sc.names.lookup y = some .cell) (hb : badName y = false) (hl : lamScB y scope = true) (hlm : Γ.lm = true) (hst : isStar x = false) (ha : SE RX Γ C gv K W x fa) :
    SE RX Γ C gv K W (.Call (.Name "sorted" q) [.Call (.Name "range" q2) [x] [] p2] [⟨some "key", .Lambda (onePar "at" pp) (.Subscript (.Name y py) (.Name "at" px) pb) scope pl, pk⟩] pos) fun e => (fa e).bind fun x e => match e[i]? with
      | some (some (.val d)) => R.of (rankop x d) e
      | _ => .no := by
  obtain ⟨ta, pa, qa⟩ := ha
  refine ⟨tRank K TabT.T i ta, fun X ok hK => ?_, fun B e σ H Q rs h => ?_⟩
  · subst hK
    obtain ⟨v1, v2, v3⟩ := ok.gl hg
    obtain ⟨w1, w2, w3⟩ := ok.gl hg2
    obtain ⟨c, P, l1, l2, l3, l4⟩ := ok.lam hlm
    exact pe_rank v1 (blt_of ok (by decide)) w1 (blt_of ok (by decide)) (pa X ok rfl) ok.calm ok.hu ok.hdp (star_cons hst) l2 l1 l3 l4 (by rw [ok.hN]; exact hn) (by rw [ok.hsc]; exact hc) hb (lamSc_i hl)
  · refine qa B e σ H _ rs (Post.bind h fun d1 e1 v1 H1 _ rs1 _ r1 h1 => ?_)
    cases z : e1[i]? with
    | none => simp only [z] at h1; exact h1.elim
    | some o =>
      cases o with
      | none => simp only [z] at h1; exact h1.elim
      | some sl =>
        cases sl with
        | ow m ds => simp only [z] at h1; exact h1.elim
        | val d =>
          simp only [z] at h1
          obtain ⟨w, z1, z2⟩ := rs1.val i d z
          cases zr : rankop d1 d with
          | none => rw [zr] at h1; exact h1.elim
          | some dr =>
            rw [zr] at h1
            refine ⟨Of B e1 σ, d1, d, dr, w, r1, z1, z2, zr, rs1.tb, fun H2 q ex al ts rq => ?_⟩
            obtain ⟨rs2, st2⟩ := rs1.grown ex al ts
            exact h1 q H2 rs2 st2 (rq _ fun a => rs1.al a)
theorem se_olen {i : Nat} {n : Str} {p q : Pos} (hg : glB Γ "len" = true) (h1 : Γ.N[i]? = some n) (h2 : visB Γ n = true) : SE RX Γ C gv K W (.Call (.Name "len" p) [.Name n q] [] pos) fun e => match getO e i with
    | some ds => R.of (prim .len [.lst ds]) e
    | none => .no := by
  refine ⟨tCB (fun xs H Q => ∃ p ys, xs = [.ref p] ∧ (SqL K H p ys ∨ SqT K H p ys) ∧ Q (.int ys.length) H) (tCons (tVar i) tNil), fun X ok hK => ?_, fun B e σ H Q rs h => ?_⟩
  · subst hK
    obtain ⟨g1, g2, g3⟩ := ok.gl hg
    exact pe_callB call_len_seq g1 (blt_of ok (by decide +kernel)) (by decide +kernel) (pa_one (pe_slot ok h1 h2) rfl) g3 g2 (star_cons rfl) rfl
  · cases k : getO e i with
    | none => simp only [k] at h; exact h.elim
    | some ds =>
      simp only [k] at h
      obtain ⟨d, hd, q⟩ := Post.vok rs h
      obtain ⟨a, vs, w1, w2, w3, w4⟩ := rs.ownL i ds (getO_own k)
      simp only [prim] at hd
      split at hd
      · cases hd
        refine ⟨.ref a, w1, a, vs, rfl, .inl (.inl (.inl w3)), ?_⟩
        rw [← w4.len]
        exact q.same (.int _)
      · cases hd
/-! ### what is walked -/
def iSeq (K : PySem.W.Frag) (te : TE) : TI := fun σ H R => te σ H fun x H1 => ∃ a, x = .ref a ∧ ((∃ xs, SqL K H1 a xs ∧ R (Itl K a) H1) ∨ ∃ xs, SqT K H1 a xs ∧ R (Itt K a) H1)
theorem pi_seq {X : Cx} {tg l : PySem.Expr} {tl : TE} (hl : PE X l tl) : PI X tg l (iSeq X.K tl) := by
  refine ⟨fun pins s σ H R I h => ?_⟩
  refine thn (hl.run pins s σ H _ I h) fun v s1 ⟨x, H1, I1, r1, q1⟩ => ?_
  obtain ⟨a, e, q⟩ := q1
  subst e
  cases r1
  rcases q with ⟨xs, hq, q⟩ | ⟨xs, hq, q⟩
  · obtain ⟨its, rv, p, hz⟩ := I1.list hq
    refine wpAny_pyIter_list p.isList ?_
    refine ⟨s1.heap.objs.size, [s1.heap.objs.size], _, _, H1, rfl, I1.kept (t' := s1.toks) fun b o e => Heap.get?_push_of_some _ e, turn_list a _, ⟨_, Heap.get?_push_size _ rfl, rfl, rfl⟩, fun b hb => ?_, q⟩
    have e : b = s1.heap.objs.size := by simpa using hb
    subst e
    exact I1.fpOk (Nat.le_refl _) (I1.hok.fresh (Nat.le_refl _))
  · obtain ⟨its, rv, p, hz⟩ := I1.tuple hq
    refine wpAny_pyIter_tuple (show s1.heap.IsTuple a its.toArray from p) ?_
    refine ⟨s1.heap.objs.size, [s1.heap.objs.size], _, _, H1, rfl, I1.kept (t' := s1.toks) fun b o e => Heap.get?_push_of_some _ e, turn_tuple a _, ⟨_, Heap.get?_push_size _ rfl, rfl, rfl⟩, fun b hb => ?_, q⟩
    have e : b = s1.heap.objs.size := by simpa using hb
    subst e
    exact I1.fpOk (Nat.le_refl _) (I1.hok.fresh (Nat.le_refl _))
def itemsF (fa : Env → R D) : Env → R (List D) := fun e => (fa e).bind fun x e => match x with
    | .tup ds => .ok ds e
    | .lst ds => .ok ds e
    | .fz ds => .ok ds e
    | _ => .no
theorem si_items {tg : PySem.Expr} (ha : SE RX Γ C gv K W x fa) : SI RX Γ C gv K W tg x (itemsF fa) := by
  obtain ⟨ta, pa, qa⟩ := ha
  refine ⟨iSeq K ta, fun X ok hK => by subst hK; exact pi_seq (pa X ok rfl), fun B e σ H Q rs h => ?_⟩
  have h : Post RX K W B e σ H (Wk K) (itemsF fa e) Q := h
  refine qa B e σ H _ rs (Post.bind h fun d e1 v H1 _ rs1 _ r1 h1 => ?_)
  cases d with
  | tup ds =>
    obtain ⟨a, vs, rfl, s1, r2⟩ := r1.untup
    exact ⟨a, rfl, .inr ⟨vs, s1, h1 _ H1 rs1 .refl (.inr (.inl ⟨a, rfl, r1⟩))⟩⟩
  | lst ds =>
    obtain ⟨a, vs, rfl, _, s1, r2⟩ := r1.unlst
    exact ⟨a, rfl, .inl ⟨vs, .inl (.inl s1), h1 _ H1 rs1 .refl (.inl ⟨a, rfl, .inl r1⟩)⟩⟩
  | fz ds =>
    obtain ⟨a, vs, rfl, s1, r2⟩ := r1.unfz
    exact ⟨a, rfl, .inl ⟨vs, s1, h1 _ H1 rs1 .refl (.inl ⟨a, rfl, .inr r1⟩)⟩⟩
  | _ => exact h1.elim
def rng1F (fa : Env → R D) : Env → R (List D) := fun e => (fa e).bind fun x e => match x with
    | .int n => if rangeOk 0 n = true then .ok (range_ 0 n.toNat) e else .no
    | _ => .no
theorem si_rng1 {tg : PySem.Expr} {q : Pos} (hg : glB Γ "range" = true) (hst : isStar x = false) (ha : SE RX Γ C gv K W x fa) : SI RX Γ C gv K W tg (.Call (.Name "range" q) [x] [] pos) (rng1F fa) := by
  obtain ⟨ta, pa, qa⟩ := ha
  refine ⟨iRng1 (tCons ta tNil), fun X ok hK => ?_, fun B e σ H Q rs h => ?_⟩
  · obtain ⟨g1, g2, g3⟩ := ok.gl hg
    exact pi_range1 g1 (blt_of ok (by decide +kernel)) (pa_one (pa X ok hK) hst) (star_cons hst)
  · have h : Post RX K W B e σ H (Wk K) (rng1F fa e) Q := h
    refine qa B e σ H _ rs (Post.bind h fun d e1 v H1 _ rs1 _ r1 h1 => ?_)
    cases d with
    | int n =>
      simp only at h1
      split at h1
      · rename_i hr
        obtain ⟨_, _, b1, b2⟩ := of_decide_eq_true hr
        exact ⟨n, by rw [r1.unint], b1, b2, h1 _ H1 rs1 .refl (.inr (.inr (.inl ⟨0, n.toNat, rfl, rfl⟩)))⟩
      · exact h1.elim
    | _ => exact h1.elim
def rng2F (fa fb : Env → R D) : Env → R (List D) := fun e => (fa e).bind fun x e => (fb e).bind fun y e => match x, y with
    | .int i, .int j => if rangeOk i j = true then .ok (range_ i (j - i).toNat) e else .no
    | _, _ => .no
theorem si_rng2 {tg : PySem.Expr} {q : Pos} (hg : glB Γ "range" = true) (hst : isStar x = false) (hst2 : isStar y = false) (ha : SE RX Γ C gv K W x fa) (hb : SE RX Γ C gv K W y fb) : SI RX Γ C gv K W tg (.Call (.Name "range" q) [x, y] [] pos) (rng2F fa fb) := by
  obtain ⟨ta, pa, qa⟩ := ha
  obtain ⟨tb, pb, qb⟩ := hb
  refine ⟨iRng2 (tCons ta (tCons tb tNil)), fun X ok hK => ?_, fun B e σ H Q rs h => ?_⟩
  · obtain ⟨g1, g2, g3⟩ := ok.gl hg
    exact pi_range2 g1 (blt_of ok (by decide +kernel)) (pa_cons (pa X ok hK) (pa_one (pb X ok hK) hst2) (star_cons hst)) (by rw [star_cons hst, star_cons hst2]; rfl) (star_cons hst2)
  · have h : Post RX K W B e σ H (Wk K) (rng2F fa fb e) Q := h
    refine qa B e σ H _ rs (Post.bind h fun d e1 v H1 _ rs1 _ r1 h1 => ?_)
    refine qb B e1 σ H1 _ rs1 (Post.bind h1 fun d2 e2 v2 H2 _ rs2 st2 r2 h2 => ?_)
    cases d with
    | int i =>
      cases d2 with
      | int j =>
        simp only at h2
        split at h2
        · rename_i hr
          refine ⟨i, j, ?_, of_decide_eq_true hr, h2 _ H2 rs2 .refl (.inr (.inr (.inl ⟨i, (j - i).toNat, rfl, rfl⟩)))⟩
          rw [r1.unint, r2.unint]
        · exact h2.elim
      | _ => exact h2.elim
    | _ => cases d2 <;> exact h2.elim
def zipF (fa fb : Env → R D) : Env → R (List D) := fun e => (fa e).bind fun x e => (fb e).bind fun y e => match x, y with
    | .tup xs, .tup ys => .ok (zipD xs ys) e
    | .lst xs, .lst ys => .ok (zipD xs ys) e
    | .lst xs, .tup ys => .ok (zipD xs ys) e
    | _, _ => .no
theorem si_zip {elts : List PySem.Expr} {kk : Nat} {tpos : Pos} {q : Pos} (hg : glB Γ "zip" = true) (hst : isStar x = false) (hst2 : isStar y = false) (ha : SE RX Γ C gv K W x fa) (hb : SE RX Γ C gv K W y fb) : SI RX Γ C gv K W (.Tuple elts kk tpos) (.Call (.Name "zip" q) [x, y] [] pos) (zipF fa fb) := by
  obtain ⟨ta, pa, qa⟩ := ha
  obtain ⟨tb, pb, qb⟩ := hb
  refine ⟨iZipB K (tCons ta (tCons tb tNil)), fun X ok hK => ?_, fun B e σ H Q rs h => ?_⟩
  · subst hK
    obtain ⟨g1, g2, g3⟩ := ok.gl hg
    exact pi_zipB g1 (blt_of ok (by decide +kernel)) (pa_cons (pa X ok rfl) (pa_one (pb X ok rfl) hst2) (star_cons hst)) (star_cons hst) (star_any (by unfold noStar; simp [hst2]))
  · have h : Post RX K W B e σ H (Wk K) (zipF fa fb e) Q := h
    refine qa B e σ H _ rs (Post.bind h fun d e1 v H1 _ rs1 _ r1 h1 => ?_)
    refine qb B e1 σ H1 _ rs1 (Post.bind h1 fun d2 e2 v2 H2 _ rs2 st2 r2 h2 => ?_)
    have r1 := rs1.keep st2 r1
    cases d with
    | tup xs =>
      cases d2 with
      | tup ys =>
        obtain ⟨a, vs, rfl, s1, r3⟩ := r1.untup
        obtain ⟨b, us, rfl, s2, r4⟩ := r2.untup
        exact ⟨a, b, vs, us, rfl, .inr (.inl ⟨s1, s2, h2 _ H2 rs2 .refl (.inr (.inr (.inr (.inr (.inl ⟨a, b, xs, ys, rfl, rfl, r1, r2⟩)))))⟩)⟩
      | _ => exact h2.elim
    | lst xs =>
      cases d2 with
      | lst ys =>
        obtain ⟨a, vs, rfl, _, s1, r3⟩ := r1.unlst
        obtain ⟨b, us, rfl, _, s2, r4⟩ := r2.unlst
        exact ⟨a, b, vs, us, rfl, .inl ⟨.inl (.inl s1), .inl (.inl s2), h2 _ H2 rs2 .refl (.inr (.inr (.inr (.inl ⟨a, b, xs, ys, rfl, rfl, r1, r2⟩))))⟩⟩
      | tup ys =>
        obtain ⟨a, vs, rfl, _, s1, r3⟩ := r1.unlst
        obtain ⟨b, us, rfl, s2, r4⟩ := r2.untup
        exact ⟨a, b, vs, us, rfl, .inr (.inr ⟨.inl (.inl s1), s2, h2 _ H2 rs2 .refl (.inr (.inr (.inr (.inr (.inr (.inr ⟨a, b, xs, ys, rfl, rfl, r1, r2⟩))))))⟩)⟩
      | _ => exact h2.elim
    | _ => cases d2 <;> exact h2.elim
end
section
variable {K : PySem.W.Frag} {O : Addr → Prop} {H : Hp} {ds : List D} {J : It}
theorem range_get : ∀ {n : Nat} {lo : Int} {i : Nat} {d : D}, (range_ lo n)[i]? = some d → i < n ∧ d = .int (lo + i)
  | 0, lo, i, d, h => by simp [range_] at h
  | n + 1, lo, 0, d, h => by
    have e : D.int lo = d := by simpa [range_] using h
    subst e
    exact ⟨by omega, by simp⟩
  | n + 1, lo, i + 1, d, h => by
    have h : (range_ (lo + 1) n)[i]? = some d := by simpa [range_] using h
    obtain ⟨h1, h2⟩ := range_get h
    refine ⟨by omega, ?_⟩
    rw [h2]
    congr 1
    omega
theorem range_len : ∀ {n : Nat} {lo : Int}, (range_ lo n).length = n
  | 0, lo => rfl
  | n + 1, lo => by rw [range_, List.length_cons, range_len]
/-- the heap behind a turn: as it was, or one new tuple more -/
def Nxt (H H' : Hp) : Prop := H' = H ∨ ∃ p us, H p = none ∧ H' = upd H p (.tup us)
theorem Nxt.rst {B : Addr → Prop} {e : Env} {σ : L2.St} {H' : Hp} (n : Nxt H H') (r : RSt K B H e σ) : RSt K B H' e σ ∧ Stp H e σ H' e σ := by
  rcases n with rfl | ⟨p, us, hp, rfl⟩
  · exact ⟨r, .refl⟩
  · exact r.laid hp
theorem Nxt.keep {H' : Hp} (n : Nxt H H') {a : Addr} {o : HO} (h : H a = some o) : H' a = some o := by
  rcases n with rfl | ⟨p, us, hp, rfl⟩
  · exact h
  · rw [upd_ne (ne_of_none h hp)]; exact h
theorem Nxt.al {H' : Hp} (n : Nxt H H') {a : Addr} (h : H a ≠ none) : H' a ≠ none := by
  cases z : H a with
  | none => exact absurd z h
  | some o => rw [n.keep z]; exact fun w => by cases w
theorem zipD_get : ∀ {xs ys : List D} {i : Nat} {d : D}, (zipD xs ys)[i]? = some d → ∃ x y, xs[i]? = some x ∧ ys[i]? = some y ∧ d = .tup [x, y]
  | [], _, i, d, h => by simp [zipD] at h
  | _ :: _, [], i, d, h => by simp [zipD] at h
  | x :: xs, y :: ys, 0, d, h => by
    simp [zipD] at h
    exact ⟨x, y, rfl, rfl, h.symm⟩
  | x :: xs, y :: ys, i + 1, d, h => by
    obtain ⟨u, v, h1, h2, h3⟩ := zipD_get (xs := xs) (ys := ys) (i := i) (by simpa [zipD] using h)
    exact ⟨u, v, by simpa using h1, by simpa using h2, h3⟩
theorem zipD_len : ∀ {xs ys : List D} {i : Nat}, (zipD xs ys).length ≤ i → xs.length ≤ i ∨ ys.length ≤ i
  | [], _, i, _ => .inl (Nat.zero_le _)
  | _ :: _, [], i, _ => .inr (Nat.zero_le _)
  | x :: xs, y :: ys, 0, h => by simp [zipD] at h
  | x :: xs, y :: ys, i + 1, h => by
    rcases zipD_len (xs := xs) (ys := ys) (i := i) (by simpa [zipD] using h) with q | q
    · exact .inl (by simpa using q)
    · exact .inr (by simpa using q)
theorem rp_new2 {x y : D} {v w : V} {T : Addr} (h1 : Rp K O H x v) (h2 : Rp K O H y w) (hT : H T = none) : Rp K O (upd H T (.tup [v, w])) (.tup [x, y]) (.ref T) := by
  have fr : Fr (fun _ => False) H (upd H T (.tup [v, w])) := ⟨fun b u q _ _ => by rw [upd_ne (ne_of_none q hT)]; exact q, fun _ z => z.elim⟩
  unfold Rp
  exact ⟨T, [v, w], rfl, .inl (.inl upd_same), .cons (Rp.mono fr (fun _ z => z.elim) (fun b q => .inl q) h1) (.cons (Rp.mono fr (fun _ z => z.elim) (fun b q => .inl q) h2) .nil)⟩
theorem zipD_min : ∀ {xs ys : List D}, (zipD xs ys).length ≤ xs.length ∧ (zipD xs ys).length ≤ ys.length ∧ ((zipD xs ys).length = xs.length ∨ (zipD xs ys).length = ys.length)
  | [], ys => by simp [zipD]
  | _ :: _, [] => by simp [zipD]
  | x :: xs, y :: ys => by
    have := zipD_min (xs := xs) (ys := ys)
    simp only [zipD, List.length_cons]
    omega
/-- the next item -/
theorem Wk.go (w : Wk K O H ds J) {i : Nat} {d : D} (h : ds[i]? = some d) : J.go i H ∧ ∀ x H', J.yld i H x H' → Nxt H H' ∧ Rp K O H' d x := by
  rcases w with ⟨a, rfl, w⟩ | ⟨a, rfl, w⟩ | ⟨lo, n, rfl, rfl⟩ | ⟨a, b, xs, ys, rfl, rfl, w1, w2⟩ | ⟨a, b, xs, ys, rfl, rfl, w1, w2⟩ | ⟨dd, vs, rfl, r, hd⟩ | ⟨a, b, xs, ys, rfl, rfl, w1, w2⟩
  · have key : ∀ vs, SqL K H a vs → Rps K O H ds vs → (Itl K a).go i H ∧ ∀ x H', (Itl K a).yld i H x H' → Nxt H H' ∧ Rp K O H' d x := fun vs s r => by
      obtain ⟨v, q1, q2⟩ := r.get h
      refine ⟨⟨vs, v, s, q1⟩, fun x H' z => ⟨.inl z.1, ?_⟩⟩
      have q3 := z.2 vs s
      rw [q1] at q3
      cases q3
      rw [z.1]
      exact q2
    rcases w with w | w
    · obtain ⟨a', vs, e, _, s, r⟩ := w.unlst
      cases e
      exact key vs (.inl (.inl s)) r
    · obtain ⟨a', vs, e, s, r⟩ := w.unfz
      cases e
      exact key vs s r
  · obtain ⟨a', vs, e, s, r⟩ := w.untup
    cases e
    obtain ⟨v, q1, q2⟩ := r.get h
    refine ⟨⟨vs, v, s, q1⟩, fun x H' z => ⟨.inl z.1, ?_⟩⟩
    have q3 := z.2 vs s
    rw [q1] at q3
    cases q3
    rw [z.1]
    exact q2
  · obtain ⟨h1, h2⟩ := range_get h
    refine ⟨h1, fun x H' z => ⟨.inl z.1, ?_⟩⟩
    rw [z.2, h2]
    exact .int _
  · obtain ⟨a', vs, e, _, s, r⟩ := w1.unlst
    cases e
    obtain ⟨b', us, e, _, s2, r2⟩ := w2.unlst
    cases e
    obtain ⟨dx, dy, k1, k2, rfl⟩ := zipD_get h
    obtain ⟨v, q1, q2⟩ := r.get k1
    obtain ⟨u, p1, p2⟩ := r2.get k2
    refine ⟨⟨vs, us, v, u, .inl (.inl s), .inl (.inl s2), q1, p1⟩, fun x H' z => ?_⟩
    obtain ⟨T, v', u', rfl, hT, rfl, g1, g2⟩ := z
    have g1 := g1 vs (.inl (.inl s))
    have g2 := g2 us (.inl (.inl s2))
    rw [q1] at g1
    rw [p1] at g2
    cases g1
    cases g2
    exact ⟨.inr ⟨T, _, hT, rfl⟩, rp_new2 q2 p2 hT⟩
  · obtain ⟨a', vs, e, s, r⟩ := w1.untup
    cases e
    obtain ⟨b', us, e, s2, r2⟩ := w2.untup
    cases e
    obtain ⟨dx, dy, k1, k2, rfl⟩ := zipD_get h
    obtain ⟨v, q1, q2⟩ := r.get k1
    obtain ⟨u, p1, p2⟩ := r2.get k2
    refine ⟨⟨vs, us, v, u, s, s2, q1, p1⟩, fun x H' z => ?_⟩
    obtain ⟨T, v', u', rfl, hT, rfl, g1, g2⟩ := z
    have g1 := g1 vs s
    have g2 := g2 us s2
    rw [q1] at g1
    rw [p1] at g2
    cases g1
    cases g2
    exact ⟨.inr ⟨T, _, hT, rfl⟩, rp_new2 q2 p2 hT⟩
  · obtain ⟨v, q1, q2⟩ := r.get h
    refine ⟨⟨(List.getElem?_eq_some_iff.mp q1).1, fun p hp => (hd p hp).1⟩, fun x H' z => ⟨.inl z.1, ?_⟩⟩
    have q3 := z.2
    rw [q1] at q3
    cases q3
    rw [z.1]
    exact q2
  · obtain ⟨a', vs, e, _, s, r⟩ := w1.unlst
    cases e
    obtain ⟨b', us, e, s2, r2⟩ := w2.untup
    cases e
    obtain ⟨dx, dy, k1, k2, rfl⟩ := zipD_get h
    obtain ⟨v, q1, q2⟩ := r.get k1
    obtain ⟨u, p1, p2⟩ := r2.get k2
    refine ⟨⟨vs, us, v, u, .inl (.inl s), s2, q1, p1⟩, fun x H' z => ?_⟩
    obtain ⟨T, v', u', rfl, hT, rfl, g1, g2⟩ := z
    have g1 := g1 vs (.inl (.inl s))
    have g2 := g2 us s2
    rw [q1] at g1
    rw [p1] at g2
    cases g1
    cases g2
    exact ⟨.inr ⟨T, _, hT, rfl⟩, rp_new2 q2 p2 hT⟩
theorem Wk.stop (w : Wk K O H ds J) {i : Nat} (h1 : i = ds.length) : J.stop i H := by
  have h : ds.length ≤ i := Nat.le_of_eq h1.symm
  rcases w with ⟨a, rfl, w⟩ | ⟨a, rfl, w⟩ | ⟨lo, n, rfl, rfl⟩ | ⟨a, b, xs, ys, rfl, rfl, w1, w2⟩ | ⟨a, b, xs, ys, rfl, rfl, w1, w2⟩ | ⟨dd, vs, rfl, r, hd⟩ | ⟨a, b, xs, ys, rfl, rfl, w1, w2⟩
  · rcases w with w | w
    · obtain ⟨a', vs, e, _, s, r⟩ := w.unlst
      cases e
      exact ⟨vs, .inl (.inl s), by rw [← r.len]; exact h⟩
    · obtain ⟨a', vs, e, s, r⟩ := w.unfz
      cases e
      exact ⟨vs, s, by rw [← r.len]; exact h⟩
  · obtain ⟨a', vs, e, s, r⟩ := w.untup
    cases e
    exact ⟨vs, s, by rw [← r.len]; exact h⟩
  · show n ≤ i
    rwa [range_len] at h
  · obtain ⟨a', vs, e, _, s, r⟩ := w1.unlst
    cases e
    obtain ⟨b', us, e, _, s2, r2⟩ := w2.unlst
    cases e
    exact ⟨vs, us, .inl (.inl s), .inl (.inl s2), by rw [← r.len, ← r2.len]; exact zipD_len h⟩
  · obtain ⟨a', vs, e, s, r⟩ := w1.untup
    cases e
    obtain ⟨b', us, e, s2, r2⟩ := w2.untup
    cases e
    exact ⟨vs, us, s, s2, by rw [← r.len, ← r2.len]; exact zipD_len h⟩
  · exact ⟨by rw [← r.len]; exact h, fun p hp => (hd p hp).1⟩
  · obtain ⟨a', vs, e, _, s, r⟩ := w1.unlst
    cases e
    obtain ⟨b', us, e, s2, r2⟩ := w2.untup
    cases e
    have m := zipD_min (xs := xs) (ys := ys)
    rw [← h1] at m
    exact ⟨vs, us, .inl (.inl s), s2, by rw [← r.len]; exact m.1, by rw [← r2.len]; exact m.2.1, by rw [← r.len, ← r2.len]; exact m.2.2⟩
variable {B : Addr → Prop} {e e' : Env} {σ σ' : L2.St} {H' : Hp}
theorem Wk.keep (w : Wk K (Of B e σ) H ds J) (rs : RSt K B H e σ) (st : Stp H e σ H' e' σ') : Wk K (Of B e' σ') H' ds J := by
  rcases w with ⟨a, rfl, w⟩ | ⟨a, rfl, w⟩ | w | ⟨a, b, xs, ys, rfl, rfl, w1, w2⟩ | ⟨a, b, xs, ys, rfl, rfl, w1, w2⟩ | ⟨dd, vs, rfl, r, hd⟩ | ⟨a, b, xs, ys, rfl, rfl, w1, w2⟩
  · exact .inl ⟨a, rfl, w.imp (rs.keep st) (rs.keep st)⟩
  · exact .inr (.inl ⟨a, rfl, rs.keep st w⟩)
  · exact .inr (.inr (.inl w))
  · exact .inr (.inr (.inr (.inl ⟨a, b, xs, ys, rfl, rfl, rs.keep st w1, rs.keep st w2⟩)))
  · exact .inr (.inr (.inr (.inr (.inl ⟨a, b, xs, ys, rfl, rfl, rs.keep st w1, rs.keep st w2⟩))))
  · refine .inr (.inr (.inr (.inr (.inr (.inl ⟨dd, vs, rfl, rs.keeps st r, fun p hp => ?_⟩)))))
    obtain ⟨a1, a2, a3⟩ := hd p hp
    refine ⟨st.fr _ _ a1 a2 fun z => a3 (.inr z), a2, fun z => ?_⟩
    rcases st.of_ _ z with q | q
    · exact a3 q
    · rw [a1] at q; cases q
  · exact .inr (.inr (.inr (.inr (.inr (.inr ⟨a, b, xs, ys, rfl, rfl, rs.keep st w1, rs.keep st w2⟩)))))
end
end Ev
set_option Elab.async false
set_option linter.all false
set_option maxRecDepth 100000
set_option maxHeartbeats 4000000
set_option autoImplicit false
/-! Ev8: targets, comprehensions. -/
namespace Ev
open PySem PySem.Spec PyProof.Rows L2
variable [TabT]
section
variable {RX : RXT} {Γ : Gam} {C : Ctx} {gv : Nat → V} {K : PySem.W.Frag} {W : WX} {pos : Pos}
/-! ### targets -/
def SG (RX : RXT) (Γ : Gam) (C : Ctx) (gv : Nat → V) (K : PySem.W.Frag) (W : WX) (t : Tg) (tg : PySem.Expr) : Prop := ∃ g : TG, (∀ X, Ok RX Γ C gv X W → X.K = K → PG X tg g) ∧
  ∀ B e σ H d v (Q : L2.St → Hp → Prop), RSt K B H e σ → Rp K (Of B e σ) H d v → (match bindT t d e with
    | some e' => ∀ σ', RSt K B H e' σ' → Stp H e σ H e' σ' → (∀ j, j ∉ t.slots → σ'[j]? = σ[j]?) → Q σ' H
    | none => False) → g v σ H Q
def SGs (RX : RXT) (Γ : Gam) (C : Ctx) (gv : Nat → V) (K : PySem.W.Frag) (W : WX) (t : Tg) (ts : List PySem.Expr) : Prop := ∃ g : TGs, (∀ X, Ok RX Γ C gv X W → X.K = K → PGs X ts g) ∧
  ∀ B e σ H ds vs (Q : L2.St → Hp → Prop), RSt K B H e σ → Rps K (Of B e σ) H ds vs → (match bindT t (.lst ds) e with
    | some e' => ∀ σ', RSt K B H e' σ' → Stp H e σ H e' σ' → (∀ j, j ∉ t.slots → σ'[j]? = σ[j]?) → Q σ' H
    | none => False) → g vs σ H Q
theorem mGs_len {t : Tg} : ∀ {es : List PySem.Expr} {ds : List D} {e e' : Env}, mGs Γ t es = true → bindT t (.lst ds) e = some e' → ds.length = es.length := by
  induction t with
  | nm i => intro es ds e e' h; cases h
  | tp t _ => intro es ds e e' h; cases h
  | nil =>
    intro es ds e e' h q
    cases ds with
    | nil => cases es with
      | nil => rfl
      | cons _ _ => cases h
    | cons _ _ => cases q
  | cons t ts _ ih =>
    intro es ds e e' h q
    obtain ⟨x, r, rfl, h⟩ := asC_i h
    obtain ⟨h1, h2⟩ := and2 h
    cases ds with
    | nil => cases q
    | cons d ds =>
      have q : ((bindT t d e).bind fun e1 => bindT ts (.lst ds) e1) = some e' := q
      cases z : bindT t d e with
      | none => rw [z] at q; cases q
      | some e1 =>
        rw [z] at q
        rw [List.length_cons, List.length_cons, ih h2 q]
theorem mG_star {t : Tg} {x : PySem.Expr} (h : mG Γ t x = true) : isStar x = false := by
  cases t with
  | nm i => obtain ⟨n, p, rfl, _⟩ := asName_i h; rfl
  | tp t => obtain ⟨es, n, p, rfl, _⟩ := asTup_i h; rfl
  | nil => cases h
  | cons _ _ => cases h
theorem each_cons {x : PySem.Expr} {es : List PySem.Expr} {env : PySem.Env} (h : isStar x = false) : (assignEach (x :: es) env).map (·.2) = assign x env :: (assignEach es env).map (·.2) := by
  cases x <;> first | rfl | cases h
theorem each_len {env : PySem.Env} : ∀ {es : List PySem.Expr}, (assignEach es env).length = es.length
  | [] => rfl
  | x :: es => by
    have : (assignEach (x :: es) env).length = (assignEach es env).length + 1 := by cases x <;> rfl
    rw [this, each_len, List.length_cons]
theorem each_none {env : PySem.Env} : ∀ {es : List PySem.Expr}, noStar es = true → (assignEach es env).findIdx? (·.1) = none
  | [], _ => rfl
  | x :: es, h => by
    obtain ⟨h1, h2⟩ := noStar_cons h
    have e : assignEach (x :: es) env = (false, assign x env) :: assignEach es env := by
      cases x <;> first | rfl | cases h1
    rw [e, List.findIdx?_cons]
    simp [each_none h2]
/-- a tuple or a list taken apart -/
def gSeq (K : PySem.W.Frag) (n : Nat) (t : TGs) : TG := fun v σ H Q => gTup K n t v σ H Q ∨ gUnl K n t v σ H Q
theorem pg_seq {X : Cx} {e : PySem.Expr} {n : Nat} {t : TGs} (h1 : PG X e (gTup X.K n t)) (h2 : PG X e (gUnl X.K n t)) : PG X e (gSeq X.K n t) := by
  refine ⟨fun pins s σ H v u Q I r hw => ?_⟩
  rcases hw with hw | hw
  · exact h1.run pins s σ H v u Q I r hw
  · exact h2.run pins s σ H v u Q I r hw
theorem tg_ok (t : Tg) : (∀ x, mG Γ t x = true → SG RX Γ C gv K W t x) ∧ (∀ xs, mGs Γ t xs = true → SGs RX Γ C gv K W t xs) := by
  induction t with
  | nm i =>
    refine ⟨fun x h => ?_, fun xs h => by cases h⟩
    obtain ⟨n, p, rfl, h⟩ := asName_i h
    obtain ⟨h1, h2⟩ := and2 h
    refine ⟨gName i, fun X ok hK => ?_, fun B e σ H d v Q rs r h => ?_⟩
    · obtain ⟨s1, s2⟩ := ok.st h2
      exact pg_name (by rw [ok.hN]; exact ok.nd) (by rw [ok.hN]; exact of_decide_eq_true h1) s1 s2
    · obtain ⟨rs', st'⟩ := rs.put (i := i) r
      refine h (σ.set i (some v)) rs' st' fun j hj => ?_
      rw [List.getElem?_set_ne]
      intro z
      exact hj (by rw [z]; exact List.mem_singleton.mpr rfl)
  | tp t ih =>
    refine ⟨fun x h => ?_, fun xs h => by cases h⟩
    obtain ⟨es, n, p, rfl, h⟩ := asTup_i h
    obtain ⟨h1, h2⟩ := and2 h
    obtain ⟨g, pg, qg⟩ := ih.2 es h1
    refine ⟨gSeq K es.length g, fun X ok hK => by subst hK; exact pg_seq (pg_tup ok.calm (pg X ok rfl) each_len (each_none h2)) (pg_unl ok.calm (pg X ok rfl) each_len (each_none h2)), fun B e σ H d v Q rs r h => ?_⟩
    cases d with
    | tup ds =>
      obtain ⟨a, vs, rfl, s, r1⟩ := r.untup
      have h : (match bindT t (.lst ds) e with
        | some e' => ∀ σ', RSt K B H e' σ' → Stp H e σ H e' σ' → (∀ j, j ∉ t.slots → σ'[j]? = σ[j]?) → Q σ' H
        | none => False) := h
      refine .inl ⟨a, vs, rfl, s, ?_, qg B e σ H ds vs Q rs r1 h⟩
      cases z : bindT t (.lst ds) e with
      | none => rw [z] at h; exact h.elim
      | some e' => rw [← r1.len, mGs_len h1 z]
    | lst ds =>
      obtain ⟨a, vs, rfl, _, s, r1⟩ := r.unlst
      have h : (match bindT t (.lst ds) e with
        | some e' => ∀ σ', RSt K B H e' σ' → Stp H e σ H e' σ' → (∀ j, j ∉ t.slots → σ'[j]? = σ[j]?) → Q σ' H
        | none => False) := h
      refine .inr ⟨a, vs, rfl, .inl (.inl s), ?_, qg B e σ H ds vs Q rs r1 h⟩
      cases z : bindT t (.lst ds) e with
      | none => rw [z] at h; exact h.elim
      | some e' => rw [← r1.len, mGs_len h1 z]
    | _ => exact h.elim
  | nil =>
    refine ⟨fun x h => (by cases h), fun xs h => ?_⟩
    cases xs with
    | nil =>
      refine ⟨gNil, fun X ok hK => pgs_nil, fun B e σ H ds vs Q rs r h => ?_⟩
      cases ds with
      | nil => exact ⟨r.unnil, h σ rs .refl fun _ _ => rfl⟩
      | cons _ _ => exact h.elim
    | cons _ _ => cases h
  | cons t ts iht ihts =>
    refine ⟨fun x h => (by cases h), fun xs h => ?_⟩
    obtain ⟨x, r, rfl, h⟩ := asC_i h
    obtain ⟨h1, h2⟩ := and2 h
    obtain ⟨g1, p1, q1⟩ := iht.1 x h1
    obtain ⟨g2, p2, q2⟩ := ihts.2 r h2
    refine ⟨gCons g1 g2, fun X ok hK => pgs_cons (p1 X ok hK) (p2 X ok hK) (each_cons (mG_star h1)), fun B e σ H ds vs Q rs r h => ?_⟩
    cases ds with
    | nil => exact h.elim
    | cons d ds =>
      obtain ⟨v, vs', rfl, r1, r2⟩ := r.uncons
      have h : (match (bindT t d e).bind fun e1 => bindT ts (.lst ds) e1 with
        | some e' => ∀ σ', RSt K B H e' σ' → Stp H e σ H e' σ' → (∀ j, j ∉ t.slots ++ ts.slots → σ'[j]? = σ[j]?) → Q σ' H
        | none => False) := h
      refine ⟨v, vs', rfl, q1 B e σ H d v _ rs r1 ?_⟩
      cases z : bindT t d e with
      | none => rw [z] at h; exact h.elim
      | some e1 =>
        rw [z] at h
        intro σ1 rs1 st1 o1
        refine q2 B e1 σ1 H ds vs' Q rs1 (rs.keeps st1 r2) ?_
        have h : (match bindT ts (.lst ds) e1 with
          | some e' => ∀ σ', RSt K B H e' σ' → Stp H e σ H e' σ' → (∀ j, j ∉ t.slots ++ ts.slots → σ'[j]? = σ[j]?) → Q σ' H
          | none => False) := h
        cases z2 : bindT ts (.lst ds) e1 with
        | none => rw [z2] at h; exact h.elim
        | some e2 =>
          rw [z2] at h
          intro σ2 rs2 st2 o2
          refine h σ2 rs2 (st1.trans st2) fun j hj => ?_
          rw [List.mem_append] at hj
          rw [o2 j fun w => hj (.inr w), o1 j fun w => hj (.inl w)]
end
/-! ### slots wiped and put back -/
section
variable {K : PySem.W.Frag} {B : Addr → Prop} {e e' : Env} {σ σ' : L2.St} {H H' : Hp}
theorem wipes_len : ∀ {vs : List Nat}, (wipes e vs).length = e.length
  | [] => rfl
  | v :: vs => by rw [wipes, List.length_set, wipes_len]
theorem wipes_in {i : Nat} : ∀ {vs : List Nat}, i ∈ vs → (wipes e vs)[i]? = none ∨ (wipes e vs)[i]? = some none
  | v :: vs, h => by
    rw [wipes]
    by_cases q : v = i
    · subst q
      by_cases hv : v < (wipes e vs).length
      · exact .inr (by rw [List.getElem?_set_self hv])
      · exact .inl (by rw [List.getElem?_eq_none (by rw [List.length_set]; omega)])
    · rw [List.getElem?_set_ne q]
      rcases List.mem_cons.mp h with z | z
      · exact absurd z.symm q
      · exact wipes_in z
theorem wipes_out {i : Nat} : ∀ {vs : List Nat}, i ∉ vs → (wipes e vs)[i]? = e[i]?
  | [], _ => rfl
  | v :: vs, h => by
    rw [wipes, List.getElem?_set_ne (fun z => h (by rw [z]; exact List.mem_cons_self)), wipes_out fun z => h (List.mem_cons_of_mem _ z)]
theorem wipe_none {i : Nat} : ∀ {vs : List Nat}, i ∈ vs → (wipe σ vs)[i]? = none ∨ (wipe σ vs)[i]? = some none
  | v :: vs, h => by
    rw [wipe]
    by_cases q : v = i
    · subst q
      by_cases hv : v < (wipe σ vs).length
      · exact .inr (by rw [List.getElem?_set_self hv])
      · exact .inl (by rw [List.getElem?_eq_none (by rw [List.length_set]; omega)])
    · rw [List.getElem?_set_ne q]
      rcases List.mem_cons.mp h with z | z
      · exact absurd z.symm q
      · exact wipe_none z
theorem wipe_eq {vs : List Nat} (hl : σ.length = σ'.length) (h : ∀ j, j ∉ vs → σ'[j]? = σ[j]?) : wipe σ' vs = wipe σ vs := by
  refine List.ext_getElem? fun j => ?_
  by_cases hj : j ∈ vs
  · have hlen : (wipe σ' vs).length = (wipe σ vs).length := by rw [wipe_length, wipe_length, hl]
    by_cases hb : j < (wipe σ vs).length
    · have a1 : (wipe σ' vs)[j]? = some none := by
        rcases wipe_none (σ := σ') hj with z | z
        · rw [List.getElem?_eq_none_iff] at z; omega
        · exact z
      have a2 : (wipe σ vs)[j]? = some none := by
        rcases wipe_none (σ := σ) hj with z | z
        · rw [List.getElem?_eq_none_iff] at z; omega
        · exact z
      rw [a1, a2]
    · rw [List.getElem?_eq_none (by omega), List.getElem?_eq_none (by omega)]
  · rw [wipe_out hj, wipe_out hj, h j hj]
theorem backs_len {e1 : Env} : ∀ {vs : List Nat}, (backs e e1 vs).length = e1.length
  | [] => rfl
  | v :: vs => by rw [backs, List.length_set, backs_len]
theorem backs_out {e1 : Env} {i : Nat} : ∀ {vs : List Nat}, i ∉ vs → (backs e e1 vs)[i]? = e1[i]?
  | [], _ => rfl
  | v :: vs, h => by
    rw [backs, List.getElem?_set_ne (fun z => h (by rw [z]; exact List.mem_cons_self)), backs_out fun z => h (List.mem_cons_of_mem _ z)]
theorem backs_in {e1 : Env} {i : Nat} (hl : e1.length = e.length) : ∀ {vs : List Nat}, i ∈ vs → (backs e e1 vs)[i]? = e[i]?
  | v :: vs, h => by
    rw [backs]
    by_cases q : v = i
    · subst q
      by_cases hv : v < e.length
      · rw [List.getElem?_set_self (by rw [backs_len, hl]; exact hv), List.getElem?_eq_getElem hv]
        rfl
      · rw [List.getElem?_eq_none (by rw [List.length_set, backs_len]; omega), List.getElem?_eq_none (by omega)]
    · rw [List.getElem?_set_ne q]
      rcases List.mem_cons.mp h with z | z
      · exact absurd z.symm q
      · exact backs_in hl z
theorem own_wipes {vs : List Nat} {a : Addr} (h : OwnAt (wipes e vs) (wipe σ vs) a) : OwnAt e σ a := by
  obtain ⟨i, m, ds, h1, h2⟩ := h
  by_cases hi : i ∈ vs
  · rcases wipes_in (e := e) hi with z | z <;> (rw [z] at h1; cases h1)
  · rw [wipes_out hi] at h1
    rw [wipe_out hi] at h2
    exact ⟨i, m, ds, h1, h2⟩
theorem RSt.wipes (rs : RSt K B H e σ) (vs : List Nat) : RSt K B H (wipes e vs) (wipe σ vs) := by
  have mono : ∀ {d' : D} {v' : V}, Rp K (Of B e σ) H d' v' → Rp K (Of B (Ev.wipes e vs) (wipe σ vs)) H d' v' := fun {d' v'} q =>
    Rp.mono (S := fun _ => False) ⟨fun _ _ q _ _ => q, fun _ z => z.elim⟩ (fun _ z => z.elim) (fun b q => .inl (q.elim .inl fun z => .inr (own_wipes z))) q
  have monos : ∀ {n : Bool} {d' : List D} {v' : List V}, Rpo K (Of B e σ) H n d' v' → Rpo K (Of B (Ev.wipes e vs) (wipe σ vs)) H n d' v' := fun {n d' v'} q =>
    Rpo.mono (S := fun _ => False) ⟨fun _ _ q _ _ => q, fun _ z => z.elim⟩ (fun _ z => z.elim) (fun b q => .inl (q.elim .inl fun z => .inr (own_wipes z))) q
  have out : ∀ {i : Nat} {sl : Sl}, (Ev.wipes e vs)[i]? = some (some sl) → i ∉ vs ∧ e[i]? = some (some sl) := fun {i sl} h => by
    by_cases hi : i ∈ vs
    · rcases wipes_in (e := e) hi with z | z <;> (rw [z] at h; cases h)
    · rw [wipes_out hi] at h
      exact ⟨hi, h⟩
  refine ⟨by rw [wipes_len, wipe_length]; exact rs.len, fun i d h => ?_, fun i _ ds h => ?_, fun i j _ _ ds es a h1 h2 h3 h4 => ?_, rs.bnd, rs.tb⟩
  · obtain ⟨hi, h⟩ := out h
    obtain ⟨v, w1, w2⟩ := rs.val i d h
    exact ⟨v, by rw [wipe_out hi]; exact w1, mono w2⟩
  · obtain ⟨hi, h⟩ := out h
    obtain ⟨a, us, w1, w2, w3, w4⟩ := rs.own i ds h
    exact ⟨a, us, by rw [wipe_out hi]; exact w1, w2, w3, monos w4⟩
  · obtain ⟨hi, h1⟩ := out h1
    obtain ⟨hj, h2⟩ := out h2
    rw [wipe_out hi] at h3
    rw [wipe_out hj] at h4
    exact rs.inj i j ds es a h1 h2 h3 h4
/-- one list more that nobody here may touch -/
def With (B : Addr → Prop) (p : Addr) : Addr → Prop := fun a => B a ∨ a = p
theorem RSt.withW (rs : RSt K B H e σ) {p : Addr} {u : HO} (hu : Wr u) (hp : H p = none) : RSt K (With B p) (upd H p u) e σ := by
  have ofs : ∀ b, Of (With B p) e σ b → Of B e σ b ∨ H b = none := fun b q => by
    rcases q with (q | q) | q
    · exact .inl (.inl q)
    · exact .inr (by rw [q]; exact hp)
    · exact .inl (.inr q)
  have mono : ∀ {d' : D} {v' : V}, Rp K (Of B e σ) H d' v' → Rp K (Of (With B p) e σ) (upd H p u) d' v' := fun {d' v'} q => Rp.mono (Fr.fresh hp) (fun _ z => z.elim) ofs q
  have monos : ∀ {n : Bool} {d' : List D} {v' : List V}, Rpo K (Of B e σ) H n d' v' → Rpo K (Of (With B p) e σ) (upd H p u) n d' v' := fun {n d' v'} q => Rpo.mono (Fr.fresh hp) (fun _ z => z.elim) ofs q
  refine ⟨rs.len, fun i d h => ?_, fun i _ ds h => ?_, rs.inj, fun a h => ?_, tabs_new rs.tb hp⟩
  · obtain ⟨v, w1, w2⟩ := rs.val i d h
    exact ⟨v, w1, mono w2⟩
  · obtain ⟨a, ws, w1, w2, w3, w4⟩ := rs.own i ds h
    refine ⟨a, ws, w1, fun z => ?_, w3.fr (Fr.fresh hp) fun z => z, monos w4⟩
    rcases z with z | z
    · exact w2 z
    · obtain ⟨_, q, _⟩ := w3.at
      rw [z, hp] at q; cases q
  · rcases h with h | h
    · obtain ⟨ws, w, w'⟩ := rs.bnd a h
      exact ⟨ws, (Fr.fresh hp).fr _ _ w w'.nt fun z => z, w'⟩
    · exact ⟨_, by rw [h]; exact upd_same, hu⟩
theorem RSt.with_ (rs : RSt K B H e σ) {p : Addr} {us : List V} (hp : H p = none) : RSt K (With B p) (upd H p (.lst us)) e σ := rs.withW .lst hp
/-- that list is written by somebody else -/
theorem RSt.otherR (rs : RSt K B H e σ) {p : Addr} {u : HO} (hp : B p) (hu : Wr u) : RSt K B (upd H p u) e σ := by
  have fr : Fr (fun b => b = p) H (upd H p u) := ⟨fun b o q _ n => by rw [upd_ne n]; exact q, fun b z => by rw [z]; exact rs.bnd p hp⟩
  have oa : ∀ b, b = p → Of B e σ b := fun b z => .inl (by rw [z]; exact hp)
  have mono : ∀ {d' : D} {v' : V}, Rp K (Of B e σ) H d' v' → Rp K (Of B e σ) (upd H p u) d' v' := fun {d' v'} q => Rp.mono fr oa (fun b q => .inl q) q
  have monos : ∀ {n : Bool} {d' : List D} {v' : List V}, Rpo K (Of B e σ) H n d' v' → Rpo K (Of B e σ) (upd H p u) n d' v' := fun {n d' v'} q => Rpo.mono fr oa (fun b q => .inl q) q
  refine ⟨rs.len, fun i d h => ?_, fun i _ ds h => ?_, rs.inj, fun a h => ?_, (rs.bnd p hp).elim fun _ w => tabs_wr rs.tb w.1 w.2⟩
  · obtain ⟨v, w1, w2⟩ := rs.val i d h
    exact ⟨v, w1, mono w2⟩
  · obtain ⟨a, ws, w1, w2, w3, w4⟩ := rs.own i ds h
    refine ⟨a, ws, w1, w2, w3.fr fr fun z => w2 (by rw [z]; exact hp), monos w4⟩
  · by_cases q : a = p
    · exact ⟨_, by rw [q]; exact upd_same, hu⟩
    · obtain ⟨ws, w, w'⟩ := rs.bnd a h
      exact ⟨ws, by rw [upd_ne q]; exact w, w'⟩
theorem RSt.other (rs : RSt K B H e σ) {p : Addr} {us : List V} (hp : B p) : RSt K B (upd H p (.lst us)) e σ := rs.otherR hp .lst
theorem RSt.otherW (rs : RSt K B H e σ) {p : Addr} {u : HO} (hp : B p) (hu : Wr u) : RSt K B (upd H p u) e σ ∧ Stp H e σ H e σ ∧ (∀ a, H a ≠ none → (upd H p u) a ≠ none) := ⟨rs.otherR hp hu, .refl, fun a q => by
  by_cases hb : a = p
  · rw [hb, upd_same]; exact fun z => by cases z
  · rw [upd_ne hb]; exact q⟩
theorem Rps.otherW (rs : RSt K B H e σ) {p : Addr} {u : HO} (hp : B p) {d' : List D} {v' : List V} (q : Rps K (Of B e σ) H d' v') : Rps K (Of B e σ) (upd H p u) d' v' :=
  Rps.mono (S := fun b => b = p) ⟨fun b o q _ n => by rw [upd_ne n]; exact q, fun b z => by rw [z]; exact rs.bnd p hp⟩ (fun b z => .inl (by rw [z]; exact hp)) (fun b q => .inl q) q
theorem Rps.other (rs : RSt K B H e σ) {p : Addr} {us : List V} (hp : B p) {d' : List D} {v' : List V} (q : Rps K (Of B e σ) H d' v') : Rps K (Of B e σ) (upd H p (.lst us)) d' v' :=
  Rps.mono (S := fun b => b = p) ⟨fun b o q _ n => by rw [upd_ne n]; exact q, fun b z => by rw [z]; exact rs.bnd p hp⟩ (fun b z => .inl (by rw [z]; exact hp)) (fun b q => .inl q) q
theorem Rp.other (rs : RSt K B H e σ) {p : Addr} {us : List V} (hp : B p) {d' : D} {v' : V} (q : Rp K (Of B e σ) H d' v') : Rp K (Of B e σ) (upd H p (.lst us)) d' v' :=
  Rp.mono (S := fun b => b = p) ⟨fun b o q _ n => by rw [upd_ne n]; exact q, fun b z => by rw [z]; exact rs.bnd p hp⟩ (fun b z => .inl (by rw [z]; exact hp)) (fun b q => .inl q) q
theorem Wk.mono {S O O' : Addr → Prop} {ds : List D} {J : It} (f : Fr S H H') (hS : ∀ a, S a → O a) (hO : ∀ a, O' a → O a ∨ H a = none) (w : Wk K O H ds J) : Wk K O' H' ds J := by
  rcases w with ⟨a, rfl, w⟩ | ⟨a, rfl, w⟩ | w | ⟨a, b, xs, ys, rfl, rfl, w1, w2⟩ | ⟨a, b, xs, ys, rfl, rfl, w1, w2⟩ | ⟨dd, vs, rfl, r, hd⟩ | ⟨a, b, xs, ys, rfl, rfl, w1, w2⟩
  · exact .inl ⟨a, rfl, w.imp (Rp.mono f hS hO) (Rp.mono f hS hO)⟩
  · exact .inr (.inl ⟨a, rfl, Rp.mono f hS hO w⟩)
  · exact .inr (.inr (.inl w))
  · exact .inr (.inr (.inr (.inl ⟨a, b, xs, ys, rfl, rfl, Rp.mono f hS hO w1, Rp.mono f hS hO w2⟩)))
  · exact .inr (.inr (.inr (.inr (.inl ⟨a, b, xs, ys, rfl, rfl, Rp.mono f hS hO w1, Rp.mono f hS hO w2⟩))))
  · refine .inr (.inr (.inr (.inr (.inr (.inl ⟨dd, vs, rfl, Rps.mono f hS hO r, fun p hp => ?_⟩)))))
    obtain ⟨a1, a2, a3⟩ := hd p hp
    refine ⟨f.fr _ _ a1 a2 fun z => a3 (hS _ z), a2, fun z => ?_⟩
    rcases hO _ z with q | q
    · exact a3 q
    · rw [a1] at q; cases q
  · exact .inr (.inr (.inr (.inr (.inr (.inr ⟨a, b, xs, ys, rfl, rfl, Rp.mono f hS hO w1, Rp.mono f hS hO w2⟩)))))
end
end Ev
set_option Elab.async false
set_option linter.all false
set_option maxRecDepth 100000
set_option maxHeartbeats 4000000
set_option autoImplicit false
/-! Ev9: comprehensions. -/
namespace Ev
open PySem PySem.Spec PyProof.Rows L2
variable [TabT]
section
variable {K : PySem.W.Frag} {B : Addr → Prop} {e e' e1 ec : Env} {σ σ' : L2.St} {H H' H1 : Hp} {p : Addr}
theorem Rps.wiped (vs : List Nat) {ds : List D} {us : List V} (h : Rps K (Of B e σ) H ds us) : Rps K (Of B (wipes e vs) (wipe σ vs)) H ds us :=
  Rps.mono (S := fun _ => False) ⟨fun _ _ q _ _ => q, fun _ z => z.elim⟩ (fun _ z => z.elim) (fun b q => .inl (q.elim .inl fun z => .inr (own_wipes z))) h
theorem RSt.notOwn (rs : RSt K B H e σ) {a : Addr} (h : B a) : ¬ OwnAt e σ a := fun ⟨i, _, ds, h1, h2⟩ => by
  obtain ⟨b, vs, q1, q2, _⟩ := rs.own i ds h1
  rw [h2] at q1
  cases q1
  exact q2 h
theorem bindT_len {t : Tg} : ∀ {d : D} {e e' : Env}, bindT t d e = some e' → e'.length = e.length := by
  induction t with
  | nm i =>
    intro d e e' h
    have h : some (e.set i (some (.val d))) = some e' := h
    cases h
    exact List.length_set
  | tp t ih =>
    intro d e e' h
    cases d with
    | tup ds => exact ih (d := .lst ds) h
    | lst ds => exact ih (d := .lst ds) h
    | _ => cases h
  | nil =>
    intro d e e' h
    cases d with
    | lst ds => cases ds with
      | nil =>
        have h : some e = some e' := h
        cases h
        rfl
      | cons _ _ => cases h
    | _ => cases h
  | cons t ts iht ihts =>
    intro d e e' h
    cases d with
    | lst ds => cases ds with
      | nil => cases h
      | cons x xs =>
        have h : ((bindT t x e).bind fun e1 => bindT ts (.lst xs) e1) = some e' := h
        cases z : bindT t x e with
        | none => rw [z] at h; cases h
        | some e1 =>
          rw [z] at h
          rw [ihts (d := .lst xs) h, iht z]
    | _ => cases h
theorem st_unwipe (rs1 : RSt K B H1 e1 σ) {D : Addr} {vs : List Nat} (hD : H1 D = none) (hv : ∀ i ∈ vs, ∀ m ds, e1[i]? ≠ some (some (Sl.ow m ds))) (rs : RSt K (With B D) H (wipes ec vs) (wipe σ vs))
    (st : Stp H1 (wipes e1 vs) (wipe σ vs) H (wipes ec vs) (wipe σ vs)) : RSt K (With B D) H (backs e1 ec vs) σ ∧ Stp H1 e1 σ H (backs e1 ec vs) σ ∧ ∀ a, Of (With B D) (backs e1 ec vs) σ a → Of (With B D) (wipes ec vs) (wipe σ vs) a := by
  have hl : ec.length = e1.length := by
    have := rs.len
    rw [wipes_len, wipe_length] at this
    rw [this, rs1.len]
  have ow : ∀ {i : Nat} {m : Bool} {ds : List Ev.D}, (backs e1 ec vs)[i]? = some (some (Sl.ow m ds)) → i ∉ vs ∧ (wipes ec vs)[i]? = some (some (Sl.ow m ds)) := fun {i m ds} h => by
    by_cases hi : i ∈ vs
    · rw [backs_in hl hi] at h
      exact absurd h (hv i hi m ds)
    · rw [backs_out hi] at h
      exact ⟨hi, by rw [wipes_out hi]; exact h⟩
  have oa : ∀ a, OwnAt (backs e1 ec vs) σ a → OwnAt (wipes ec vs) (wipe σ vs) a := fun a ⟨i, m, ds, h1, h2⟩ => by
    obtain ⟨hi, h1⟩ := ow h1
    exact ⟨i, m, ds, h1, by rw [wipe_out hi]; exact h2⟩
  have of : ∀ a, Of (With B D) (backs e1 ec vs) σ a → Of (With B D) (wipes ec vs) (wipe σ vs) a := fun a h => h.elim .inl fun z => .inr (oa a z)
  have st' : Stp H1 e1 σ H (backs e1 ec vs) σ := ⟨fun a o h tt n => st.fr a o h tt fun z => n (own_wipes z), st.al, fun a h => (st.sub a (oa a h)).imp own_wipes id⟩
  have mono : ∀ {d' : Ev.D} {v' : V}, Rp K (Of (With B D) (wipes ec vs) (wipe σ vs)) H d' v' → Rp K (Of (With B D) (backs e1 ec vs) σ) H d' v' := fun {d' v'} q =>
    Rp.mono (S := fun _ => False) ⟨fun _ _ q _ _ => q, fun _ z => z.elim⟩ (fun _ z => z.elim) (fun b q => .inl (of b q)) q
  have monos : ∀ {n : Bool} {d' : List Ev.D} {v' : List V}, Rpo K (Of (With B D) (wipes ec vs) (wipe σ vs)) H n d' v' → Rpo K (Of (With B D) (backs e1 ec vs) σ) H n d' v' := fun {n d' v'} q =>
    Rpo.mono (S := fun _ => False) ⟨fun _ _ q _ _ => q, fun _ z => z.elim⟩ (fun _ z => z.elim) (fun b q => .inl (of b q)) q
  refine ⟨⟨by rw [backs_len, hl, rs1.len], fun i d h => ?_, fun i _ ds h => ?_, fun i j _ _ ds es a h1 h2 h3 h4 => ?_, rs.bnd, rs.tb⟩, st', of⟩
  · by_cases hi : i ∈ vs
    · rw [backs_in hl hi] at h
      obtain ⟨v, w1, w2⟩ := rs1.val i d h
      refine ⟨v, w1, Rp.mono (rs1.frame st') (fun a q => .inr q) (fun a q => ?_) w2⟩
      rcases q with (q | q) | q
      · exact .inl (.inl q)
      · exact .inr (by rw [q]; exact hD)
      · exact (st'.sub a q).imp .inr id
    · rw [backs_out hi] at h
      obtain ⟨v, w1, w2⟩ := rs.val i d (by rw [wipes_out hi]; exact h)
      rw [wipe_out hi] at w1
      exact ⟨v, w1, mono w2⟩
  · obtain ⟨hi, h⟩ := ow h
    obtain ⟨a, us, w1, w2, w3, w4⟩ := rs.own i ds h
    rw [wipe_out hi] at w1
    exact ⟨a, us, w1, w2, w3, monos w4⟩
  · obtain ⟨hi, h1⟩ := ow h1
    obtain ⟨hj, h2⟩ := ow h2
    exact rs.inj i j ds es a h1 h2 (by rw [wipe_out hi]; exact h3) (by rw [wipe_out hj]; exact h4)
/-- that list is none of ours any more -/
theorem RSt.less (rs : RSt K (With B p) H e σ) : RSt K B H e σ := by
  have of : ∀ a, Of B e σ a → Of (With B p) e σ a := fun a h => h.elim (fun z => .inl (.inl z)) .inr
  refine ⟨rs.len, fun i d h => ?_, fun i _ ds h => ?_, rs.inj, fun a h => rs.bnd a (.inl h), rs.tb⟩
  · obtain ⟨v, w1, w2⟩ := rs.val i d h
    exact ⟨v, w1, Rp.mono (S := fun _ => False) ⟨fun _ _ q _ _ => q, fun _ z => z.elim⟩ (fun _ z => z.elim) (fun b q => .inl (of b q)) w2⟩
  · obtain ⟨a, us, w1, w2, w3, w4⟩ := rs.own i ds h
    exact ⟨a, us, w1, fun z => w2 (.inl z), w3, Rpo.mono (S := fun _ => False) ⟨fun _ _ q _ _ => q, fun _ z => z.elim⟩ (fun _ z => z.elim) (fun b q => .inl (of b q)) w4⟩
/-- that list is a slot's own from now on -/
theorem RSt.adopt (rs : RSt K (With B p) H e σ) (nb : ¬ B p) {i : Nat} {m : Bool} {ds : List D} {us : List V} (h : LOs H p m ds us) (r : Rpo K (Of (With B p) e σ) H m ds us) :
    RSt K B H (e.set i (some (Sl.ow m ds))) (σ.set i (some (V.ref p))) ∧ ∀ a, OwnAt (e.set i (some (Sl.ow m ds))) (σ.set i (some (V.ref p))) a → OwnAt e σ a ∨ a = p := by
  have sub : ∀ b, OwnAt (e.set i (some (Sl.ow m ds))) (σ.set i (some (V.ref p))) b → OwnAt e σ b ∨ b = p := fun b ⟨j, n, fs, q1, q2⟩ => by
    rcases own_set_own q1 with ⟨rfl, rfl, rfl, _⟩ | ⟨hj, q⟩
    · rw [List.getElem?_set] at q2
      simp at q2
      exact .inr q2.2.symm
    · rw [List.getElem?_set_ne (Ne.symm hj)] at q2
      exact .inl ⟨j, n, fs, q, q2⟩
  have of : ∀ a, Of B (e.set i (some (Sl.ow m ds))) (σ.set i (some (V.ref p))) a → Of (With B p) e σ a := fun a h => h.elim (fun z => .inl (.inl z)) fun z => (sub a z).elim .inr fun w => .inl (.inr w)
  have mono : ∀ {d' : Ev.D} {v' : V}, Rp K (Of (With B p) e σ) H d' v' → Rp K (Of B (e.set i (some (Sl.ow m ds))) (σ.set i (some (V.ref p)))) H d' v' := fun {d' v'} q =>
    Rp.mono (S := fun _ => False) ⟨fun _ _ q _ _ => q, fun _ z => z.elim⟩ (fun _ z => z.elim) (fun b q => .inl (of b q)) q
  have monos : ∀ {n : Bool} {d' : List Ev.D} {v' : List V}, Rpo K (Of (With B p) e σ) H n d' v' → Rpo K (Of B (e.set i (some (Sl.ow m ds))) (σ.set i (some (V.ref p)))) H n d' v' := fun {n d' v'} q =>
    Rpo.mono (S := fun _ => False) ⟨fun _ _ q _ _ => q, fun _ z => z.elim⟩ (fun _ z => z.elim) (fun b q => .inl (of b q)) q
  refine ⟨⟨by rw [List.length_set, List.length_set]; exact rs.len, fun j d q => ?_, fun j _ fs q => ?_, fun j k _ _ fs gs b q1 q2 q3 q4 => ?_, fun a h => rs.bnd a (.inl h), rs.tb⟩, sub⟩
  · by_cases hj : i = j
    · subst hj
      have hi : i < e.length := by
        have := (List.getElem?_eq_some_iff.mp q).1
        rwa [List.length_set] at this
      rw [List.getElem?_set_self hi] at q
      cases q
    · rw [List.getElem?_set_ne hj] at q
      obtain ⟨v, w1, w2⟩ := rs.val j d q
      exact ⟨v, by rw [List.getElem?_set_ne hj]; exact w1, mono w2⟩
  · rcases own_set_own q with ⟨rfl, rfl, rfl, hi⟩ | ⟨hj, q'⟩
    · exact ⟨p, us, by rw [List.getElem?_set_self (by rw [← rs.len]; exact hi)], nb, h, monos r⟩
    · obtain ⟨b, ws, w1, w2, w3, w4⟩ := rs.own j fs q'
      exact ⟨b, ws, by rw [List.getElem?_set_ne (Ne.symm hj)]; exact w1, fun z => w2 (.inl z), w3, monos w4⟩
  · have neq : ∀ {j : Nat} {n : Bool} {fs : List D} {b : Addr}, j ≠ i → (e.set i (some (Sl.ow m ds)))[j]? = some (some (Sl.ow n fs)) → (σ.set i (some (V.ref p)))[j]? = some (some (V.ref b)) → b ≠ p := fun {j n fs b} hj q1 q2 z => by
      rcases own_set_own q1 with ⟨w, _⟩ | ⟨_, q⟩
      · exact hj w
      · rw [List.getElem?_set_ne (Ne.symm hj)] at q2
        exact rs.notOwn (.inr rfl) ⟨j, n, fs, q, by rw [q2, z]⟩
    have isp : ∀ {b : Addr}, (σ.set i (some (V.ref p)))[i]? = some (some (V.ref b)) → b = p := fun {b} q => by
      rw [List.getElem?_set] at q
      simp at q
      exact q.2.symm
    by_cases hj : j = i
    · by_cases hk : k = i
      · rw [hj, hk]
      · exact absurd (by rw [hj] at q3; exact isp q3) (neq hk q2 q4)
    · by_cases hk : k = i
      · exact absurd (by rw [hk] at q4; exact isp q4) (neq hj q1 q3)
      · rcases own_set_own q1 with ⟨w, _⟩ | ⟨_, z1⟩
        · exact absurd w hj
        rcases own_set_own q2 with ⟨w, _⟩ | ⟨_, z2⟩
        · exact absurd w hk
        rw [List.getElem?_set_ne (Ne.symm hj)] at q3
        rw [List.getElem?_set_ne (Ne.symm hk)] at q4
        exact rs.inj j k _ _ b z1 z2 q3 q4
end
section
variable {RX : RXT} {Γ : Gam} {C : Ctx} {gv : Nat → V} {K : PySem.W.Frag} {W : WX} {pos : Pos}
def W0 : WX := fun _ _ _ _ => False
theorem Ok.blk {X : Cx} (ok : Ok RX Γ C gv X W) {scope : Scope} {own : List (Str × Nat)} (hb : BlkOk Γ.N Γ.sc scope own) (s : Shared) (H : Hp) (c : Addr) (cl : List (Str × Addr)) (fp : List Addr) : Ok RX (Γ.blk scope) C gv (X.blk s H scope (compEnvC scope cl c X.env) fp) W0 where
  calm := ok.calm
  nd := ok.nd
  hN := ok.hN
  hsc := by
    show relS scope X.env.scope = relS scope Γ.sc
    rw [ok.hsc]
  kd := hb.kind
  fn := fun x h => h
  tk := takes0
  hu := ok.hu
  call := ok.call
  glob := ok.glob
  blt := ok.blt
  hdp := ok.hdp
  lam := fun z => by cases z
theorem St0.blk (g0 : St0 Γ C gv K) {scope : Scope} : St0 (Γ.blk scope) C gv K := ⟨g0.ar, g0.glob⟩
/-- a clause's tests -/
def SC (RX : RXT) (Γ : Gam) (C : Ctx) (gv : Nat → V) (K : PySem.W.Frag) (W : WX) (ifs : List PySem.Expr) (f : Env → R D) : Prop := ∃ t, (∀ X, Ok RX Γ C gv X W → X.K = K → PTs X ifs t) ∧ ∀ B e σ H Q, RSt K B H e σ → Post RX K W B e σ H eqB (tst f e) Q → t σ H Q
theorem sc_nil : SC RX Γ C gv K W [] fun e => .ok (.bl true) e := ⟨tYes, fun X ok hK => pts_nil, fun B e σ H Q rs h => h true H rs .refl rfl⟩
theorem sc_one {c : PySem.Expr} {f : Env → R D} (h : ST RX Γ C gv K W c f) : SC RX Γ C gv K W [c] f := by
  obtain ⟨t, p, q⟩ := h
  exact ⟨t, fun X ok hK => pts_one (p X ok hK), q⟩
theorem own_snd {N : List Str} {vs : List Nat} : (ownOf N vs).map (·.2) = vs := by
  unfold ownOf
  rw [List.map_map]
  exact List.map_id'' (fun _ => rfl) vs
theorem no_fold {it : PySem.Expr} {env : PySem.Env} (h : isSet it = false) : ∀ x, foldedSetIterable it env x = pure x := fun x => by
  cases it <;> first | rfl | cases h
theorem compL_cons {vs : List Nat} {t : Tg} {c f : Env → R D} {d : D} {ds rest : List D} {e e2 : Env} (h : compL vs t c f (d :: ds) e = .ok rest e2) :
    ∃ eb b e3, bindT t d (wipes e vs) = some eb ∧ c eb = .ok (.bl b) e3 ∧ ((b = true ∧ ∃ y e4 ys, f e3 = .ok y e4 ∧ compL vs t c f ds e4 = .ok ys e2 ∧ rest = y :: ys) ∨ (b = false ∧ compL vs t c f ds e3 = .ok rest e2)) := by
  unfold compL at h
  cases z1 : bindT t d (wipes e vs) with
  | none => rw [z1] at h; cases h
  | some eb =>
    rw [z1] at h
    replace h : (match c eb with
      | .ok b e2 => match b with
        | .bl true => match f e2 with
          | .ok y e3 => (compL vs t c f ds e3).bind fun ys e4 => .ok (y :: ys) e4
          | _ => .no
        | .bl false => compL vs t c f ds e2
        | _ => .no
      | _ => .no) = .ok rest e2 := h
    cases z2 : c eb with
    | ok b e3 =>
      rw [z2] at h
      cases b with
      | bl b =>
        refine ⟨eb, b, e3, rfl, z2, ?_⟩
        cases b with
        | true =>
          refine .inl ⟨rfl, ?_⟩
          replace h : (match f e3 with
          | .ok y e3 => (compL vs t c f ds e3).bind fun ys e4 => .ok (y :: ys) e4
          | _ => .no) = .ok rest e2 := h
          cases z3 : f e3 with
          | ok y e4 =>
            rw [z3] at h
            replace h : ((compL vs t c f ds e4).bind fun ys e4 => .ok (y :: ys) e4) = .ok rest e2 := h
            cases z4 : compL vs t c f ds e4 with
            | ok ys e5 =>
              rw [z4] at h
              replace h : R.ok (y :: ys) e5 = .ok rest e2 := h
              cases h
              exact ⟨y, e4, ys, rfl, z4, rfl⟩
            | ex _ _ => rw [z4] at h; cases h
            | no => rw [z4] at h; cases h
          | ex _ _ => rw [z3] at h; cases h
          | no => rw [z3] at h; cases h
        | false => exact .inr ⟨rfl, h⟩
      | _ => cases h
    | ex _ _ => rw [z2] at h; cases h
    | no => rw [z2] at h; cases h
def lcF (vs : List Nat) (t : Tg) (fi : Env → R (List D)) (fc fe : Env → R D) : Env → R D := fun e => (fi e).bind fun ds e => match vs.all fun v => bare e v with
    | true => match compL vs t fc fe ds e with
      | .ok ys e1 => if ys.length ≤ lim then .ok (.lst ys) (backs e e1 vs) else .no
      | _ => .no
    | false => .no
/-- a new list that nobody else knows -/
def FPost (RX : RXT) (K : PySem.W.Frag) (W : WX) (B : Addr → Prop) (e : Env) (σ : L2.St) (H : Hp) (r : R D) (Q : VK) : Prop := match r with
  | .ok d e' => (match d with
    | .lst ds => ∀ p us H', H p = none → RSt K (With B p) H' e' σ → Stp H e σ H' e' σ → H' p = some (.lst us) → Rps K (Of (With B p) e' σ) H' ds us → Q (.ref p) H'
    | .dic ds => ∀ p us H', H p = none → RSt K (With B p) H' e' σ → Stp H e σ H' e' σ → LOs H' p true ds us → Rpo K (Of (With B p) e' σ) H' true ds us → Q (.ref p) H'
    | _ => False)
  | .ex x e' => ∀ c dd H', RSt K B H' e' σ → Stp H e σ H' e' σ → RX x c dd H' → W c dd σ H'
  | .no => False
theorem FPost.shift {B : Addr → Prop} {e e1 : Env} {σ : L2.St} {H H1 : Hp} {r : R D} {Q : VK} (st : Stp H e σ H1 e1 σ) (h : FPost RX K W B e σ H r Q) : FPost RX K W B e1 σ H1 r Q := by
  cases r with
  | ok x e' =>
    cases x with
    | lst ds =>
      intro p us H' hp rs s
      refine h p us H' ?_ rs (st.trans s)
      cases z : H p with
      | none => rfl
      | some o => exact absurd hp (st.al p (by rw [z]; exact fun w => by cases w))
    | dic ds =>
      intro p us H' hp rs s
      refine h p us H' ?_ rs (st.trans s)
      cases z : H p with
      | none => rfl
      | some o => exact absurd hp (st.al p (by rw [z]; exact fun w => by cases w))
    | _ => exact h
  | ex x e' => exact fun y dd H' rs s rl => h y dd H' rs (st.trans s) rl
  | no => exact h
theorem FPost.bind {a b : Type} {Rel : (Addr → Prop) → Hp → a → b → Prop} {B : Addr → Prop} {e : Env} {σ : L2.St} {H : Hp} {r : R a} {f : a → Env → R D} {Q2 : VK} {Q : b → Hp → Prop} (h : FPost RX K W B e σ H (r.bind f) Q2)
    (k : ∀ x e1 y H1, r = .ok x e1 → RSt K B H1 e1 σ → Stp H e σ H1 e1 σ → Rel (Of B e1 σ) H1 x y → FPost RX K W B e1 σ H1 (f x e1) Q2 → Q y H1) : Post RX K W B e σ H Rel r Q := by
  cases r with
  | ok x e1 => exact fun y H1 rs st rl => k x e1 y H1 rfl rs st rl (FPost.shift st h)
  | ex x e1 => exact h
  | no => exact h
def SF (RX : RXT) (Γ : Gam) (C : Ctx) (gv : Nat → V) (K : PySem.W.Frag) (W : WX) (ex : PySem.Expr) (f : Env → R D) : Prop := ∃ t, (∀ X, Ok RX Γ C gv X W → X.K = K → PE X ex t ∧ ∀ (i : Nat) (y : Str) (py spos : Pos), X.N[i]? = some y → (L2.Loc X.env.scope y ∧ (X.fn y = true ∨ X.env.scope.names.lookup y = some .local)) →
    (swapsWith ex (some (.Name y py)) spos.line X.env = pure true ∧ X.env.scope.names.lookup y = some .local) ∨ swapsWith ex (some (.Name y py)) spos.line X.env = pure false → PS X (.Assign [.Name y py] ex spos) (tAsg t (gName i))) ∧
  ∀ B e σ H Q, RSt K B H e σ → FPost RX K W B e σ H (f e) Q → t σ H Q
def isLstR (r : R D) : Prop := ∀ d e, r = .ok d e → ∃ ds, d = .lst ds
def isNewR (r : R D) : Prop := ∀ d e, r = .ok d e → (∃ ds, d = .lst ds) ∨ ∃ ds, d = .dic ds
theorem isLstR.new {r : R D} (h : isLstR r) : isNewR r := fun d e q => .inl (h d e q)
/-- what is new, as one form: m: a dict -/
theorem FPost.one {B : Addr → Prop} {e e' : Env} {σ : L2.St} {H : Hp} {d : D} {Q : VK} (hn : (∃ ds, d = .lst ds) ∨ ∃ ds, d = .dic ds) (h : ∀ m ds, d = unD m ds → ∀ p us H', H p = none → RSt K (With B p) H' e' σ → Stp H e σ H' e' σ → LOs H' p m ds us → Rpo K (Of (With B p) e' σ) H' m ds us → Q (.ref p) H') : FPost RX K W B e σ H (.ok d e') Q := by
  rcases hn with ⟨ds, rfl⟩ | ⟨ds, rfl⟩
  · exact fun p us H' hp rs st hp' r => h false ds rfl p us H' hp rs st (.of_lst hp') r
  · exact fun p us H' hp rs st hp' r => h true ds rfl p us H' hp rs st hp' r
theorem Post.freshN {B : Addr → Prop} {e : Env} {σ : L2.St} {H : Hp} {r : R D} {Q : VK} (rs0 : RSt K B H e σ) (hl : isNewR r) (h : PostE RX K W B e σ H r Q) : FPost RX K W B e σ H r Q := by
  cases r with
  | ok d e' =>
    refine FPost.one (hl d e' rfl) fun m ds ed p us H' hp rs st hp' r => h (.ref p) H' rs.less st ?_
    rw [ed]
    refine Rpo.un (fun z => ?_) hp' (Rpo.mono (S := fun _ => False) ⟨fun _ _ q _ _ => q, fun _ z => z.elim⟩ (fun _ z => z.elim) (fun b q => .inl (q.elim (fun z => .inl (.inl z)) .inr)) r)
    rcases z with z | z
    · obtain ⟨ws, w, _⟩ := rs0.bnd p z
      rw [hp] at w; cases w
    · exact rs.notOwn (.inr rfl) z
  | ex x e' => exact h
  | no => exact h
theorem Post.fresh {B : Addr → Prop} {e : Env} {σ : L2.St} {H : Hp} {r : R D} {Q : VK} (rs0 : RSt K B H e σ) (hl : isLstR r) (h : PostE RX K W B e σ H r Q) : FPost RX K W B e σ H r Q := Post.freshN rs0 hl.new h
theorem SF.seN {ex : PySem.Expr} {f : Env → R D} (h : SF RX Γ C gv K W ex f) (hl : ∀ e, isNewR (f e)) : SE RX Γ C gv K W ex f := by
  obtain ⟨t, p, q⟩ := h
  exact ⟨t, fun X ok hK => (p X ok hK).1, fun B e σ H Q rs h => q B e σ H Q rs (Post.freshN rs (hl e) h)⟩
theorem SF.se {ex : PySem.Expr} {f : Env → R D} (h : SF RX Γ C gv K W ex f) (hl : ∀ e, isLstR (f e)) : SE RX Γ C gv K W ex f := h.seN fun e => (hl e).new
theorem lcF_lst {vs : List Nat} {t : Tg} {fi : Env → R (List D)} {fc fe : Env → R D} {e : Env} : isLstR (lcF vs t fi fc fe e) := fun d e' h => by
  unfold lcF at h
  cases z1 : fi e with
  | ok ds e1 =>
    rw [z1] at h
    replace h : (match vs.all fun v => bare e1 v with
    | true => match compL vs t fc fe ds e1 with
      | .ok ys e2 => if ys.length ≤ lim then R.ok (D.lst ys) (backs e1 e2 vs) else .no
      | _ => .no
    | false => .no) = .ok d e' := h
    split at h
    · split at h
      · split at h
        · cases h; exact ⟨_, rfl⟩
        · cases h
      · cases h
    · cases h
  | ex _ _ => rw [z1] at h; cases h
  | no => rw [z1] at h; cases h
theorem sf_lc {vs : List Nat} {t : Tg} {x tg it : PySem.Expr} {ifs : List PySem.Expr} {scope : Scope} {fi : Env → R (List D)} {fc fe : Env → R D}
    (hb : blkC Γ.N Γ.sc scope (ownOf Γ.N vs) = true) (hset : isSet it = false) (hts : (t.slots.all fun i => vs.contains i) = true) (hi : SI RX Γ C gv K W tg it fi) (hg : SG RX (Γ.blk scope) C gv K W0 t tg)
    (hc : SC RX (Γ.blk scope) C gv K W0 ifs fc) (he : SE RX (Γ.blk scope) C gv K W0 x fe) : SF RX Γ C gv K W (.ListComp x [⟨tg, it, ifs, 0⟩] scope pos) (lcF vs t fi fc fe) := by
  obtain ⟨wi, pi, qi⟩ := hi
  obtain ⟨g, pg, qg⟩ := hg
  obtain ⟨tt, pt, qt⟩ := hc
  obtain ⟨te, pe, qe⟩ := he
  have bk := blkOk_by hb
  refine ⟨tLc wi g tt te ((ownOf Γ.N vs).map (·.2)), fun X ok hK => ?_, fun B e σ H Q rs h => ?_⟩
  · have pc := pe_lc (pos := pos) ok.calm (by rw [ok.hN]; exact ok.nd) (pi X ok hK) (by rw [ok.hN, ok.hsc]; exact bk) (fun s H c cl fp => pg _ (ok.blk bk s H c cl fp) hK) (fun s H c cl fp => pt _ (ok.blk bk s H c cl fp) hK) (fun s H c cl fp => pe _ (ok.blk bk s H c cl fp) hK) (no_fold hset)
    refine ⟨pc, fun i y py spos hy hl hsw => ?_⟩
    rcases hsw with ⟨hsw, hyl⟩ | hsw
    · exact ps_setLc ok.calm (by rw [ok.hN]; exact ok.nd) hy hyl hsw (pi X ok hK) (by rw [ok.hN, ok.hsc]; exact bk) (fun s H c cl fp => pg _ (ok.blk bk s H c cl fp) hK) (fun s H c cl fp => pt _ (ok.blk bk s H c cl fp) hK) (fun s H c cl fp => pe _ (ok.blk bk s H c cl fp) hK) (no_fold hset)
    · exact ps_set (by rw [ok.hN]; exact ok.nd) hy hl.1 pc hsw hl.2
  rw [own_snd]
  have h : FPost RX K W B e σ H (lcF vs t fi fc fe e) Q := h
  refine qi B e σ H _ rs (FPost.bind h fun ds e1 J H1 _ rs1 st1 w1 h1 => ?_)
  cases ha : vs.all fun v => bare e1 v with
  | false => rw [ha] at h1; exact h1.elim
  | true =>
  rw [ha] at h1
  replace h1 : FPost RX K W B e1 σ H1 (match compL vs t fc fe ds e1 with
      | .ok ys e2 => if ys.length ≤ lim then .ok (.lst ys) (backs e1 e2 vs) else .no
      | _ => .no) Q := h1
  cases hcl : compL vs t fc fe ds e1 with
  | ex _ _ => rw [hcl] at h1; exact h1.elim
  | no => rw [hcl] at h1; exact h1.elim
  | ok ys e2 =>
  rw [hcl] at h1
  replace h1 : FPost RX K W B e1 σ H1 (if ys.length ≤ lim then .ok (.lst ys) (backs e1 e2 vs) else .no) Q := h1
  split at h1
  case isFalse => exact h1.elim
  case isTrue hl =>
  have hno : ∀ i ∈ vs, ∀ m ds, e1[i]? ≠ some (some (Sl.ow m ds)) := fun i hi m ds z => by
    have := List.all_eq_true.mp ha i hi
    unfold bare getO getM at this
    rw [z] at this
    cases m <;> cases this
  have hts : ∀ i, i ∈ t.slots → i ∈ vs := fun i hi => List.contains_iff_mem.mp (List.all_eq_true.mp hts i hi)
  intro D hD
  refine ⟨fun i m H => i + m = ds.length ∧ ∃ acc done rest ec, H D = some (.lst acc) ∧ RSt K (With B D) H (wipes ec vs) (wipe σ vs) ∧ Stp H1 (wipes e1 vs) (wipe σ vs) H (wipes ec vs) (wipe σ vs) ∧
    Rps K (Of (With B D) (wipes ec vs) (wipe σ vs)) H done acc ∧ compL vs t fc fe (ds.drop i) ec = .ok rest e2 ∧ ys = done ++ rest, ⟨ds.length, by omega, [], [], ys, e1, upd_same, (rs1.with_ hD).wipes vs, ((rs1.wipes vs).laid hD).2, .nil, hcl, rfl⟩, ?_⟩
  rintro i m H2 ⟨him, acc, done, rest, ec, hacc, rs2, st2, rd, hrest, hys⟩
  have wk : Wk K (Of (With B D) (wipes ec vs) (wipe σ vs)) H2 ds J := Wk.mono (S := OwnAt (wipes e1 vs) (wipe σ vs)) ⟨st2.fr, fun a z => (rs1.wipes vs).ls z⟩ (fun a z => .inr (own_wipes z)) (fun a z => by
    rcases z with (z | z) | z
    · exact .inl (.inl z)
    · exact .inr (by rw [z]; exact hD)
    · exact (st2.sub a z).imp (fun w => .inr (own_wipes w)) id) w1
  have hdl := rd.len
  by_cases hm : i < ds.length
  · have hd : ds[i]? = some ds[i] := List.getElem?_eq_getElem hm
    rw [List.drop_eq_getElem_cons hm] at hrest
    obtain ⟨eb, b, e3, hb1, hb2, hb3⟩ := compL_cons hrest
    refine .inr ⟨(wk.go hd).1, fun H' => i + 1 + (m - 1) = ds.length ∧ ∃ acc done rest ec, H' D = some (.lst acc) ∧ RSt K (With B D) H' (wipes ec vs) (wipe σ vs) ∧ Stp H1 (wipes e1 vs) (wipe σ vs) H' (wipes ec vs) (wipe σ vs) ∧
      Rps K (Of (With B D) (wipes ec vs) (wipe σ vs)) H' done acc ∧ compL vs t fc fe (ds.drop (i + 1)) ec = .ok rest e2 ∧ ys = done ++ rest, fun H' w => ⟨m - 1, by omega, w⟩, fun xv H' hy => ?_⟩
    obtain ⟨nx, rx⟩ := (wk.go hd).2 xv H' hy
    have stn := (nx.rst rs2).2
    have rd := rs2.keeps stn rd
    have hacc := nx.keep hacc
    have st2 := st2.trans stn
    have wk := wk.keep rs2 stn
    have rs2 := (nx.rst rs2).1
    refine qg (With B D) (wipes ec vs) (wipe σ vs) H' ds[i] xv _ rs2 rx ?_
    rw [hb1]
    intro σ2 rs3 st3 o3
    have hw : wipe σ2 vs = wipe σ vs := by
      refine wipe_eq ?_ fun j hj => ?_
      · have q1 := rs3.len
        have q2 := rs2.len
        have q3 := bindT_len hb1
        rw [wipe_length] at q2
        omega
      · rw [o3 j fun z => hj (hts j z), wipe_out hj]
    refine ⟨hw, qt (With B D) eb σ2 H' _ rs3 ?_⟩
    have htst : tst fc eb = .ok b e3 := by
      unfold tst
      rw [hb2]
      rfl
    rw [htst]
    intro b' H3 rs4 st4 hbb
    have hbb : b = b' := hbb
    subst hbb
    rcases hb3 with ⟨rfl, y, e4, ys', hf, hr2, rfl⟩ | ⟨rfl, hr2⟩
    · rw [if_pos rfl]
      refine qe (With B D) e3 σ2 H3 _ rs4 ?_
      rw [hf]
      intro yv H4 rs5 st5 ry
      have k3 : H3 D = some (.lst acc) := st4.fr D _ hacc .lst (rs3.notOwn (.inr rfl))
      have k4 : H4 D = some (.lst acc) := st5.fr D _ k3 .lst (rs4.notOwn (.inr rfl))
      have rd4 := rs4.keeps st5 (rs3.keeps st4 (rs2.keeps st3 rd))
      have rn : Rps K (Of (With B D) e4 σ2) H4 (done ++ [y]) (acc ++ [yv]) := rd4.app (.cons ry .nil)
      refine ⟨acc, k4, ?_, by omega, acc ++ [yv], done ++ [y], ys', e4, upd_same, ?_, ?_, ?_, hr2, by rw [hys]; simp⟩
      · have : ys.length = done.length + (ys'.length + 1) := by rw [hys, List.length_append, List.length_cons]
        have := lim_line
        omega
      · have := (rs5.other (us := acc ++ [yv]) (.inr rfl)).wipes vs
        rw [hw] at this
        exact this
      · have s5 := ((st2.trans st3).trans st4).trans st5
        refine ⟨fun a o q n => ?_, fun a q => ?_, fun a q => s5.sub a (own_wipes (vs := vs) (by rw [hw]; exact q))⟩
        · rw [upd_ne (ne_of_none q hD)]
          exact s5.fr a o q n
        · by_cases hb : a = D
          · rw [hb, upd_same]
            exact fun z => by cases z
          · rw [upd_ne hb]
            exact s5.al a q
      · have := (Rps.other rs5 (us := acc ++ [yv]) (.inr rfl) rn).wiped vs
        rw [hw] at this
        exact this
    · rw [if_neg (fun z => by cases z)]
      have k3 : H3 D = some (.lst acc) := st4.fr D _ hacc .lst (rs3.notOwn (.inr rfl))
      have rd4 := rs3.keeps st4 (rs2.keeps st3 rd)
      refine ⟨by omega, acc, done, rest, e3, k3, ?_, ?_, ?_, hr2, hys⟩
      · have := rs4.wipes vs
        rw [hw] at this
        exact this
      · have s5 := (st2.trans st3).trans st4
        exact ⟨s5.fr, s5.al, fun a q => s5.sub a (own_wipes (vs := vs) (by rw [hw]; exact q))⟩
      · have := rd4.wiped vs
        rw [hw] at this
        exact this
  · refine .inl ⟨wk.stop (by omega), ?_⟩
    rw [List.drop_eq_nil_of_le (by omega)] at hrest
    have hrest : R.ok [] ec = .ok rest e2 := hrest
    cases hrest
    rw [List.append_nil] at hys
    subst hys
    obtain ⟨r1, r2, r3⟩ := st_unwipe rs1 hD hno rs2 st2
    exact h1 D acc H2 hD r1 r2 hacc (Rps.mono (S := fun _ => False) ⟨fun _ _ q _ _ => q, fun _ z => z.elim⟩ (fun _ z => z.elim) (fun b q => .inl (r3 b q)) rd)
theorem compL2_cons {vs vs1 : List Nat} {t t1 : Tg} {c c1 f : Env → R D} {s1 : Env → R (List D)} {d : D} {ds rest : List D} {e e2 : Env} (h : compL2 vs t c s1 vs1 t1 c1 f (d :: ds) e = .ok rest e2) :
    ∃ eb b e3, bindT t d (wipes e vs) = some eb ∧ c eb = .ok (.bl b) e3 ∧ ((b = true ∧ ∃ ds1 e4 ys1 e5 ys, s1 e3 = .ok ds1 e4 ∧ compL vs1 t1 c1 f ds1 e4 = .ok ys1 e5 ∧ compL2 vs t c s1 vs1 t1 c1 f ds e5 = .ok ys e2 ∧ rest = ys1 ++ ys) ∨ (b = false ∧ compL2 vs t c s1 vs1 t1 c1 f ds e3 = .ok rest e2)) := by
  unfold compL2 at h
  cases z1 : bindT t d (wipes e vs) with
  | none => rw [z1] at h; cases h
  | some eb =>
    rw [z1] at h
    replace h : (match c eb with
      | .ok b e2 => match b with
        | .bl true => match s1 e2 with
          | .ok ds1 e3 => match compL vs1 t1 c1 f ds1 e3 with
            | .ok ys1 e4 => (compL2 vs t c s1 vs1 t1 c1 f ds e4).bind fun ys e5 => .ok (ys1 ++ ys) e5
            | _ => .no
          | _ => .no
        | .bl false => compL2 vs t c s1 vs1 t1 c1 f ds e2
        | _ => .no
      | _ => .no) = .ok rest e2 := h
    cases z2 : c eb with
    | ok b e3 =>
      rw [z2] at h
      cases b with
      | bl b =>
        refine ⟨eb, b, e3, rfl, z2, ?_⟩
        cases b with
        | true =>
          refine .inl ⟨rfl, ?_⟩
          replace h : (match s1 e3 with
          | .ok ds1 e3 => match compL vs1 t1 c1 f ds1 e3 with
            | .ok ys1 e4 => (compL2 vs t c s1 vs1 t1 c1 f ds e4).bind fun ys e5 => .ok (ys1 ++ ys) e5
            | _ => .no
          | _ => .no) = .ok rest e2 := h
          cases z3 : s1 e3 with
          | ok ds1 e4 =>
            rw [z3] at h
            replace h : (match compL vs1 t1 c1 f ds1 e4 with
            | .ok ys1 e4 => (compL2 vs t c s1 vs1 t1 c1 f ds e4).bind fun ys e5 => .ok (ys1 ++ ys) e5
            | _ => .no) = .ok rest e2 := h
            cases z4 : compL vs1 t1 c1 f ds1 e4 with
            | ok ys1 e5 =>
              rw [z4] at h
              replace h : ((compL2 vs t c s1 vs1 t1 c1 f ds e5).bind fun ys e5 => .ok (ys1 ++ ys) e5) = .ok rest e2 := h
              cases z5 : compL2 vs t c s1 vs1 t1 c1 f ds e5 with
              | ok ys e6 =>
                rw [z5] at h
                replace h : R.ok (ys1 ++ ys) e6 = .ok rest e2 := h
                cases h
                exact ⟨ds1, e4, ys1, e5, ys, rfl, z4, z5, rfl⟩
              | ex _ _ => rw [z5] at h; cases h
              | no => rw [z5] at h; cases h
            | ex _ _ => rw [z4] at h; cases h
            | no => rw [z4] at h; cases h
          | ex _ _ => rw [z3] at h; cases h
          | no => rw [z3] at h; cases h
        | false => exact .inr ⟨rfl, h⟩
      | _ => cases h
    | ex _ _ => rw [z2] at h; cases h
    | no => rw [z2] at h; cases h
def lc2F (vs : List Nat) (t : Tg) (fi : Env → R (List D)) (fc : Env → R D) (f1 : Env → R (List D)) (vs1 : List Nat) (t1 : Tg) (fc1 fe : Env → R D) : Env → R D := fun e => (fi e).bind fun ds e => match vs.all fun v => bare e v with
    | true => match compL2 vs t fc f1 vs1 t1 fc1 fe ds e with
      | .ok ys e1 => if ys.length ≤ lim then .ok (.lst ys) (backs e e1 vs) else .no
      | _ => .no
    | false => .no
theorem lc2F_lst {vs vs1 : List Nat} {t t1 : Tg} {fi f1 : Env → R (List D)} {fc fc1 fe : Env → R D} {e : Env} : isLstR (lc2F vs t fi fc f1 vs1 t1 fc1 fe e) := fun d e' h => by
  unfold lc2F at h
  cases z1 : fi e with
  | ok ds e1 =>
    rw [z1] at h
    replace h : (match vs.all fun v => bare e1 v with
    | true => match compL2 vs t fc f1 vs1 t1 fc1 fe ds e1 with
      | .ok ys e2 => if ys.length ≤ lim then R.ok (D.lst ys) (backs e1 e2 vs) else .no
      | _ => .no
    | false => .no) = .ok d e' := h
    split at h
    · split at h
      · split at h
        · cases h; exact ⟨_, rfl⟩
        · cases h
      · cases h
    · cases h
  | ex _ _ => rw [z1] at h; cases h
  | no => rw [z1] at h; cases h
theorem wipes_wipes {e : Env} {vs vs1 : List Nat} (hv : ∀ i, i ∈ vs1 → i ∈ vs) : wipes (wipes e vs1) vs = wipes e vs := by
  refine List.ext_getElem? fun j => ?_
  have hl : (wipes (wipes e vs1) vs).length = (wipes e vs).length := by rw [wipes_len, wipes_len, wipes_len]
  by_cases hj : j ∈ vs
  · by_cases hlt : j < (wipes e vs).length
    · have a1 := wipes_in (e := wipes e vs1) hj
      have a2 := wipes_in (e := e) hj
      have s1 : (wipes (wipes e vs1) vs)[j]? ≠ none := by rw [List.getElem?_eq_getElem (by omega)]; exact fun z => by cases z
      have s2 : (wipes e vs)[j]? ≠ none := by rw [List.getElem?_eq_getElem hlt]; exact fun z => by cases z
      rcases a1 with a1 | a1
      · exact absurd a1 s1
      · rcases a2 with a2 | a2
        · exact absurd a2 s2
        · rw [a1, a2]
    · rw [List.getElem?_eq_none (by omega), List.getElem?_eq_none (by omega)]
  · rw [wipes_out hj, wipes_out hj, wipes_out fun z => hj (hv j z)]
theorem wipe_wipe {σ : L2.St} {vs vs1 : List Nat} (hv : ∀ i, i ∈ vs1 → i ∈ vs) : wipe (wipe σ vs1) vs = wipe σ vs :=
  wipe_eq (by rw [wipe_length]) fun j hj => by rw [wipe_out fun z => hj (hv j z)]
/-- the loop of the second clause -/
theorem inner_ok {B : Addr → Prop} {D : Addr} {vs1 : List Nat} {t1 : Tg} {fc1 fe : Env → R Ev.D} {g1 : TG} {tt1 : TT} {te : TE} {ds1 ys1 done0 : List Ev.D} {E1 e3 e4 : Env} {S1 σ2 : L2.St} {H1 H4 : Hp} {acc0 : List V} {J1 : It} {Nx : Hp → Prop}
    (qg1 : ∀ B e σ H d v (Q : L2.St → Hp → Prop), RSt K B H e σ → Rp K (Of B e σ) H d v → (match bindT t1 d e with
      | some e' => ∀ σ', RSt K B H e' σ' → Stp H e σ H e' σ' → (∀ j, j ∉ t1.slots → σ'[j]? = σ[j]?) → Q σ' H
      | none => False) → g1 v σ H Q)
    (qt1 : ∀ B e σ H Q, RSt K B H e σ → Post RX K W0 B e σ H eqB (tst fc1 e) Q → tt1 σ H Q) (qe : ∀ B e σ H Q, RSt K B H e σ → PostE RX K W0 B e σ H (fe e) Q → te σ H Q)
    (hts : ∀ i, i ∈ t1.slots → i ∈ vs1) (hD : H1 D = none) (s0 : Stp H1 E1 S1 H4 e3 σ2) (rs : RSt K (With B D) H4 e3 σ2) (hacc0 : H4 D = some (.lst acc0)) (rd0 : Rps K (Of (With B D) e3 σ2) H4 done0 acc0) (w1 : Wk K (Of (With B D) e3 σ2) H4 ds1 J1)
    (hcl : compL vs1 t1 fc1 fe ds1 e3 = .ok ys1 e4) (hlim : (done0 ++ ys1).length ≤ lim)
    (fin : ∀ H acc, H D = some (.lst acc) → RSt K (With B D) H (wipes e4 vs1) (wipe σ2 vs1) → Stp H1 E1 S1 H (wipes e4 vs1) (wipe σ2 vs1) → (∀ a o, H4 a = some o → NT o → ¬ OwnAt (wipes e3 vs1) (wipe σ2 vs1) a → a ≠ D → H a = some o) → (∀ a, H4 a ≠ none → H a ≠ none) → (∀ a, OwnAt (wipes e4 vs1) (wipe σ2 vs1) a → OwnAt (wipes e3 vs1) (wipe σ2 vs1) a ∨ H4 a = none) → Rps K (Of (With B D) (wipes e4 vs1) (wipe σ2 vs1)) H (done0 ++ ys1) acc → Nx H) :
    ∃ W1 : Nat → Nat → Hp → Prop, (∃ m, W1 0 m H4) ∧ ∀ j k H, W1 j k H →
      (J1.stop j H ∧ Nx H) ∨ (J1.go j H ∧ ∃ Nx1 : Hp → Prop, (∀ H', Nx1 H' → ∃ k', k' < k ∧ W1 (j + 1) k' H') ∧ ∀ x H', J1.yld j H x H' → g1 x (wipe σ2 vs1) H' fun σ3 H5 => wipe σ3 vs1 = wipe σ2 vs1 ∧ tt1 σ3 H5 fun b H6 =>
        if b = true then te σ3 H6 fun y H7 => ∃ acc, H7 D = some (.lst acc) ∧ acc.length < sizeLine ∧ Nx1 (upd H7 D (.lst (acc ++ [y]))) else Nx1 H6) := by
  have nD : ¬ OwnAt (wipes e3 vs1) (wipe σ2 vs1) D := (rs.wipes vs1).notOwn (.inr rfl)
  have nD3 : H4 D ≠ none := by rw [hacc0]; exact fun z => by cases z
  refine ⟨fun j k H => j + k = ds1.length ∧ ∃ acc done rest ec, H D = some (.lst acc) ∧ RSt K (With B D) H (wipes ec vs1) (wipe σ2 vs1) ∧ Stp H1 E1 S1 H (wipes ec vs1) (wipe σ2 vs1) ∧
    (∀ a o, H4 a = some o → NT o → ¬ OwnAt (wipes e3 vs1) (wipe σ2 vs1) a → a ≠ D → H a = some o) ∧ (∀ a, H4 a ≠ none → H a ≠ none) ∧ (∀ a, OwnAt (wipes ec vs1) (wipe σ2 vs1) a → OwnAt (wipes e3 vs1) (wipe σ2 vs1) a ∨ H4 a = none) ∧
    Rps K (Of (With B D) (wipes ec vs1) (wipe σ2 vs1)) H done acc ∧ compL vs1 t1 fc1 fe (ds1.drop j) ec = .ok rest e4 ∧ done0 ++ ys1 = done ++ rest, ⟨ds1.length, by omega, acc0, done0, ys1, e3, hacc0, rs.wipes vs1, ⟨s0.fr, s0.al, fun a q => s0.sub a (own_wipes q)⟩, fun a o q _ _ _ => q, fun a q => q, fun a q => .inl q, rd0.wiped vs1, hcl, rfl⟩, ?_⟩
  rintro j k H2 ⟨him, acc, done, rest, ec, hacc, rs2, st2, fr2, al2, sub2, rd, hrest, hys⟩
  have wk : Wk K (Of (With B D) (wipes ec vs1) (wipe σ2 vs1)) H2 ds1 J1 := Wk.mono (S := fun a => OwnAt (wipes e3 vs1) (wipe σ2 vs1) a ∨ a = D) ⟨fun a o q tt n => fr2 a o q tt (fun z => n (.inl z)) fun z => n (.inr z), fun a z => by
      rcases z with z | z
      · exact (rs.wipes vs1).ls z
      · rw [z]; exact ⟨_, hacc0, .lst⟩⟩ (fun a z => by
      rcases z with z | z
      · exact .inr (own_wipes z)
      · exact .inl (.inr z)) (fun a z => by
    rcases z with z | z
    · exact .inl (.inl z)
    · exact (sub2 a z).imp (fun w => .inr (own_wipes w)) id) w1
  have hdl := rd.len
  by_cases hm : j < ds1.length
  · have hd : ds1[j]? = some ds1[j] := List.getElem?_eq_getElem hm
    rw [List.drop_eq_getElem_cons hm] at hrest
    obtain ⟨eb, b, e3', hb1, hb2, hb3⟩ := compL_cons hrest
    refine .inr ⟨(wk.go hd).1, fun H' => j + 1 + (k - 1) = ds1.length ∧ ∃ acc done rest ec, H' D = some (.lst acc) ∧ RSt K (With B D) H' (wipes ec vs1) (wipe σ2 vs1) ∧ Stp H1 E1 S1 H' (wipes ec vs1) (wipe σ2 vs1) ∧
      (∀ a o, H4 a = some o → NT o → ¬ OwnAt (wipes e3 vs1) (wipe σ2 vs1) a → a ≠ D → H' a = some o) ∧ (∀ a, H4 a ≠ none → H' a ≠ none) ∧ (∀ a, OwnAt (wipes ec vs1) (wipe σ2 vs1) a → OwnAt (wipes e3 vs1) (wipe σ2 vs1) a ∨ H4 a = none) ∧
      Rps K (Of (With B D) (wipes ec vs1) (wipe σ2 vs1)) H' done acc ∧ compL vs1 t1 fc1 fe (ds1.drop (j + 1)) ec = .ok rest e4 ∧ done0 ++ ys1 = done ++ rest, fun H' w => ⟨k - 1, by omega, w⟩, fun xv H' hy => ?_⟩
    obtain ⟨nx, rx⟩ := (wk.go hd).2 xv H' hy
    have stn := (nx.rst rs2).2
    have rd := rs2.keeps stn rd
    have hacc := nx.keep hacc
    have st2 := st2.trans stn
    have fr2 := fun a o q tt n nd => nx.keep (fr2 a o q tt n nd)
    have al2 := fun a q => nx.al (al2 a q)
    have wk := wk.keep rs2 stn
    have rs2 := (nx.rst rs2).1
    refine qg1 (With B D) (wipes ec vs1) (wipe σ2 vs1) H' ds1[j] xv _ rs2 rx ?_
    rw [hb1]
    intro σ3 rs3 st3 o3
    have hw : wipe σ3 vs1 = wipe σ2 vs1 := by
      refine wipe_eq ?_ fun i hi => ?_
      · have q1 := rs3.len
        have q2 := rs2.len
        have q3 := bindT_len hb1
        rw [wipe_length] at q2
        omega
      · rw [o3 i fun z => hi (hts i z), wipe_out hi]
    refine ⟨hw, qt1 (With B D) eb σ3 H' _ rs3 ?_⟩
    have htst : tst fc1 eb = .ok b e3' := by
      unfold tst
      rw [hb2]
      rfl
    rw [htst]
    intro b' H3 rs4 st4 hbb
    have hbb : b = b' := hbb
    subst hbb
    -- what a chain of steps keeps
    have chain : ∀ {Hx : Hp} {ex : Env}, Stp H' (wipes ec vs1) (wipe σ2 vs1) Hx ex σ3 → (∀ a o, H4 a = some o → NT o → ¬ OwnAt (wipes e3 vs1) (wipe σ2 vs1) a → a ≠ D → Hx a = some o) ∧ (∀ a, H4 a ≠ none → Hx a ≠ none) ∧ (∀ a, OwnAt (wipes ex vs1) (wipe σ2 vs1) a → OwnAt (wipes e3 vs1) (wipe σ2 vs1) a ∨ H4 a = none) := fun {Hx ex} s => by
      refine ⟨fun a o q tt n nd => ?_, fun a q => s.al a (al2 a q), fun a q => ?_⟩
      · refine s.fr a o (fr2 a o q tt n nd) tt fun z => ?_
        rcases sub2 a z with w | w
        · exact n w
        · rw [w] at q; cases q
      · rcases s.sub a (own_wipes (vs := vs1) (by rw [hw]; exact q)) with w | w
        · exact sub2 a w
        · refine .inr ?_
          cases z : H4 a with
          | none => rfl
          | some o => exact absurd w (al2 a (by rw [z]; exact fun w => by cases w))
    rcases hb3 with ⟨rfl, y, e5, ys', hf, hr2, rfl⟩ | ⟨rfl, hr2⟩
    · rw [if_pos rfl]
      refine qe (With B D) e3' σ3 H3 _ rs4 ?_
      rw [hf]
      intro yv H7 rs5 st5 ry
      have k3 : H3 D = some (.lst acc) := st4.fr D _ hacc .lst (rs3.notOwn (.inr rfl))
      have k4 : H7 D = some (.lst acc) := st5.fr D _ k3 .lst (rs4.notOwn (.inr rfl))
      have rd4 := rs4.keeps st5 (rs3.keeps st4 (rs2.keeps st3 rd))
      have rn : Rps K (Of (With B D) e5 σ3) H7 (done ++ [y]) (acc ++ [yv]) := rd4.app (.cons ry .nil)
      obtain ⟨c1, c2, c3⟩ := chain ((st3.trans st4).trans st5)
      refine ⟨acc, k4, ?_, by omega, acc ++ [yv], done ++ [y], ys', e5, upd_same, ?_, ?_, ?_, ?_, c3, ?_, hr2, by rw [hys]; simp⟩
      · have : (done0 ++ ys1).length = done.length + (ys'.length + 1) := by rw [hys, List.length_append, List.length_cons]
        have := lim_line
        omega
      · have := (rs5.other (us := acc ++ [yv]) (.inr rfl)).wipes vs1
        rw [hw] at this
        exact this
      · have s5 := ((st2.trans st3).trans st4).trans st5
        refine ⟨fun a o q n => ?_, fun a q => ?_, fun a q => s5.sub a (own_wipes (vs := vs1) (by rw [hw]; exact q))⟩
        · rw [upd_ne (ne_of_none q hD)]
          exact s5.fr a o q n
        · by_cases hb : a = D
          · rw [hb, upd_same]
            exact fun z => by cases z
          · rw [upd_ne hb]
            exact s5.al a q
      · intro a o q tt n nd
        rw [upd_ne nd]
        exact c1 a o q tt n nd
      · intro a q
        by_cases hb : a = D
        · rw [hb, upd_same]
          exact fun z => by cases z
        · rw [upd_ne hb]
          exact c2 a q
      · have := (Rps.other rs5 (us := acc ++ [yv]) (.inr rfl) rn).wiped vs1
        rw [hw] at this
        exact this
    · rw [if_neg (fun z => by cases z)]
      have k3 : H3 D = some (.lst acc) := st4.fr D _ hacc .lst (rs3.notOwn (.inr rfl))
      have rd4 := rs3.keeps st4 (rs2.keeps st3 rd)
      obtain ⟨c1, c2, c3⟩ := chain (st3.trans st4)
      refine ⟨by omega, acc, done, rest, e3', k3, ?_, ?_, c1, c2, c3, ?_, hr2, hys⟩
      · have := rs4.wipes vs1
        rw [hw] at this
        exact this
      · have s5 := (st2.trans st3).trans st4
        exact ⟨s5.fr, s5.al, fun a q => s5.sub a (own_wipes (vs := vs1) (by rw [hw]; exact q))⟩
      · have := rd4.wiped vs1
        rw [hw] at this
        exact this
  · refine .inl ⟨wk.stop (by omega), ?_⟩
    rw [List.drop_eq_nil_of_le (by omega)] at hrest
    have hrest : R.ok [] ec = .ok rest e4 := hrest
    cases hrest
    rw [List.append_nil] at hys
    rw [← hys] at rd
    exact fin H2 acc hacc rs2 st2 fr2 al2 sub2 rd
theorem sf_lc2 {vs vs1 : List Nat} {t t1 : Tg} {x tg it tg1 it1 : PySem.Expr} {ifs ifs1 : List PySem.Expr} {scope : Scope} {fi f1 : Env → R (List D)} {fc fc1 fe : Env → R D}
    (hb : blkC Γ.N Γ.sc scope (ownOf Γ.N vs) = true) (hset : isSet it = false) (hset1 : isSet it1 = false) (hts : (t.slots.all fun i => vs.contains i) = true) (hts1 : (t1.slots.all fun i => vs1.contains i) = true) (hvv : (vs1.all fun i => vs.contains i) = true) (hi : SI RX Γ C gv K W tg it fi) (hg : SG RX (Γ.blk scope) C gv K W0 t tg)
    (hc : SC RX (Γ.blk scope) C gv K W0 ifs fc) (hi1 : SI RX (Γ.blk scope) C gv K W0 tg1 it1 f1) (hg1 : SG RX (Γ.blk scope) C gv K W0 t1 tg1) (hc1 : SC RX (Γ.blk scope) C gv K W0 ifs1 fc1) (he : SE RX (Γ.blk scope) C gv K W0 x fe) : SF RX Γ C gv K W (.ListComp x [⟨tg, it, ifs, 0⟩, ⟨tg1, it1, ifs1, 0⟩] scope pos) (lc2F vs t fi fc f1 vs1 t1 fc1 fe) := by
  obtain ⟨wi, pi, qi⟩ := hi
  obtain ⟨g, pg, qg⟩ := hg
  obtain ⟨tt, pt, qt⟩ := hc
  obtain ⟨wi1, pi1, qi1⟩ := hi1
  obtain ⟨g1, pg1, qg1⟩ := hg1
  obtain ⟨tt1, pt1, qt1⟩ := hc1
  obtain ⟨te, pe, qe⟩ := he
  have bk := blkOk_by hb
  have hv : ∀ i, i ∈ vs1 → i ∈ vs := fun i hi => List.contains_iff_mem.mp (List.all_eq_true.mp hvv i hi)
  have hts1 : ∀ i, i ∈ t1.slots → i ∈ vs1 := fun i hi => List.contains_iff_mem.mp (List.all_eq_true.mp hts1 i hi)
  refine ⟨tLc2 wi g tt wi1 g1 tt1 te ((ownOf Γ.N vs).map (·.2)) vs1, fun X ok hK => ?_, fun B e σ H Q rs h => ?_⟩
  · have hv' : ∀ i ∈ vs1, i ∈ (ownOf Γ.N vs).map (·.2) := fun i hi => by rw [own_snd]; exact hv i hi
    have pc := pe_lc2 (pos := pos) ok.calm (by rw [ok.hN]; exact ok.nd) (pi X ok hK) (by rw [ok.hN, ok.hsc]; exact bk) hv' (fun s H c cl fp => pg _ (ok.blk bk s H c cl fp) hK) (fun s H c cl fp => pt _ (ok.blk bk s H c cl fp) hK)
      (fun s H c cl fp => pi1 _ (ok.blk bk s H c cl fp) hK) (fun s H c cl fp => pg1 _ (ok.blk bk s H c cl fp) hK) (fun s H c cl fp => pt1 _ (ok.blk bk s H c cl fp) hK) (fun s H c cl fp => pe _ (ok.blk bk s H c cl fp) hK) (no_fold hset) (fun env => no_fold hset1)
    refine ⟨pc, fun i y py spos hy hl hsw => ?_⟩
    rcases hsw with ⟨hsw, hyl⟩ | hsw
    · exact ps_setLc2 ok.calm (by rw [ok.hN]; exact ok.nd) hy hyl hsw (pi X ok hK) (by rw [ok.hN, ok.hsc]; exact bk) hv' (fun s H c cl fp => pg _ (ok.blk bk s H c cl fp) hK) (fun s H c cl fp => pt _ (ok.blk bk s H c cl fp) hK)
        (fun s H c cl fp => pi1 _ (ok.blk bk s H c cl fp) hK) (fun s H c cl fp => pg1 _ (ok.blk bk s H c cl fp) hK) (fun s H c cl fp => pt1 _ (ok.blk bk s H c cl fp) hK) (fun s H c cl fp => pe _ (ok.blk bk s H c cl fp) hK) (no_fold hset) (fun env => no_fold hset1)
    · exact ps_set (by rw [ok.hN]; exact ok.nd) hy hl.1 pc hsw hl.2
  rw [own_snd]
  have h : FPost RX K W B e σ H (lc2F vs t fi fc f1 vs1 t1 fc1 fe e) Q := h
  refine qi B e σ H _ rs (FPost.bind h fun ds e1 J H1 _ rs1 st1 w1 h1 => ?_)
  cases ha : vs.all fun v => bare e1 v with
  | false => rw [ha] at h1; exact h1.elim
  | true =>
  rw [ha] at h1
  replace h1 : FPost RX K W B e1 σ H1 (match compL2 vs t fc f1 vs1 t1 fc1 fe ds e1 with
      | .ok ys e2 => if ys.length ≤ lim then .ok (.lst ys) (backs e1 e2 vs) else .no
      | _ => .no) Q := h1
  cases hcl : compL2 vs t fc f1 vs1 t1 fc1 fe ds e1 with
  | ex _ _ => rw [hcl] at h1; exact h1.elim
  | no => rw [hcl] at h1; exact h1.elim
  | ok ys e2 =>
  rw [hcl] at h1
  replace h1 : FPost RX K W B e1 σ H1 (if ys.length ≤ lim then .ok (.lst ys) (backs e1 e2 vs) else .no) Q := h1
  split at h1
  case isFalse => exact h1.elim
  case isTrue hl =>
  have hno : ∀ i ∈ vs, ∀ m ds, e1[i]? ≠ some (some (Sl.ow m ds)) := fun i hi m ds z => by
    have := List.all_eq_true.mp ha i hi
    unfold bare getO getM at this
    rw [z] at this
    cases m <;> cases this
  have hts : ∀ i, i ∈ t.slots → i ∈ vs := fun i hi => List.contains_iff_mem.mp (List.all_eq_true.mp hts i hi)
  intro D hD
  refine ⟨fun i m H => i + m = ds.length ∧ ∃ acc done rest ec, H D = some (.lst acc) ∧ RSt K (With B D) H (wipes ec vs) (wipe σ vs) ∧ Stp H1 (wipes e1 vs) (wipe σ vs) H (wipes ec vs) (wipe σ vs) ∧
    Rps K (Of (With B D) (wipes ec vs) (wipe σ vs)) H done acc ∧ compL2 vs t fc f1 vs1 t1 fc1 fe (ds.drop i) ec = .ok rest e2 ∧ ys = done ++ rest, ⟨ds.length, by omega, [], [], ys, e1, upd_same, (rs1.with_ hD).wipes vs, ((rs1.wipes vs).laid hD).2, .nil, hcl, rfl⟩, ?_⟩
  rintro i m H2 ⟨him, acc, done, rest, ec, hacc, rs2, st2, rd, hrest, hys⟩
  have wk : Wk K (Of (With B D) (wipes ec vs) (wipe σ vs)) H2 ds J := Wk.mono (S := OwnAt (wipes e1 vs) (wipe σ vs)) ⟨st2.fr, fun a z => (rs1.wipes vs).ls z⟩ (fun a z => .inr (own_wipes z)) (fun a z => by
    rcases z with (z | z) | z
    · exact .inl (.inl z)
    · exact .inr (by rw [z]; exact hD)
    · exact (st2.sub a z).imp (fun w => .inr (own_wipes w)) id) w1
  have hdl := rd.len
  by_cases hm : i < ds.length
  · have hd : ds[i]? = some ds[i] := List.getElem?_eq_getElem hm
    rw [List.drop_eq_getElem_cons hm] at hrest
    obtain ⟨eb, b, e3, hb1, hb2, hb3⟩ := compL2_cons hrest
    refine .inr ⟨(wk.go hd).1, fun H' => i + 1 + (m - 1) = ds.length ∧ ∃ acc done rest ec, H' D = some (.lst acc) ∧ RSt K (With B D) H' (wipes ec vs) (wipe σ vs) ∧ Stp H1 (wipes e1 vs) (wipe σ vs) H' (wipes ec vs) (wipe σ vs) ∧
      Rps K (Of (With B D) (wipes ec vs) (wipe σ vs)) H' done acc ∧ compL2 vs t fc f1 vs1 t1 fc1 fe (ds.drop (i + 1)) ec = .ok rest e2 ∧ ys = done ++ rest, fun H' w => ⟨m - 1, by omega, w⟩, fun xv H' hy => ?_⟩
    obtain ⟨nx, rx⟩ := (wk.go hd).2 xv H' hy
    have stn := (nx.rst rs2).2
    have rd := rs2.keeps stn rd
    have hacc := nx.keep hacc
    have st2 := st2.trans stn
    have wk := wk.keep rs2 stn
    have rs2 := (nx.rst rs2).1
    refine qg (With B D) (wipes ec vs) (wipe σ vs) H' ds[i] xv _ rs2 rx ?_
    rw [hb1]
    intro σ2 rs3 st3 o3
    have hw : wipe σ2 vs = wipe σ vs := by
      refine wipe_eq ?_ fun j hj => ?_
      · have q1 := rs3.len
        have q2 := rs2.len
        have q3 := bindT_len hb1
        rw [wipe_length] at q2
        omega
      · rw [o3 j fun z => hj (hts j z), wipe_out hj]
    refine ⟨hw, qt (With B D) eb σ2 H' _ rs3 ?_⟩
    have htst : tst fc eb = .ok b e3 := by
      unfold tst
      rw [hb2]
      rfl
    rw [htst]
    intro b' H3 rs4 st4 hbb
    have hbb : b = b' := hbb
    subst hbb
    rcases hb3 with ⟨rfl, ds1, e4, ys1, e5, ys', hf, hin, hr2, rfl⟩ | ⟨rfl, hr2⟩
    · rw [if_pos rfl]
      refine qi1 (With B D) e3 σ2 H3 _ rs4 ?_
      rw [hf]
      intro J1 H4 rs5 st5 w5
      have k3 : H3 D = some (.lst acc) := st4.fr D _ hacc .lst (rs3.notOwn (.inr rfl))
      have k4 : H4 D = some (.lst acc) := st5.fr D _ k3 .lst (rs4.notOwn (.inr rfl))
      have rd4 := rs4.keeps st5 (rs3.keeps st4 (rs2.keeps st3 rd))
      refine inner_ok (RX := RX) (B := B) (D := D) (E1 := wipes e1 vs) (S1 := wipe σ vs) (H1 := H1) qg1 qt1 qe hts1 hD (((st2.trans st3).trans st4).trans st5) rs5 k4 rd4 w5 hin ?_ fun H acc' ha' rs6 st6 _ _ _ rd6 => ?_
      · have : ys.length = (done ++ ys1).length + ys'.length := by rw [hys, List.length_append, List.length_append, List.length_append]; omega
        omega
      · refine ⟨by omega, acc', done ++ ys1, ys', e5, ha', ?_, ?_, ?_, hr2, by rw [hys, List.append_assoc]⟩
        · have := rs6.wipes vs
          rw [wipes_wipes hv, wipe_wipe hv, hw] at this
          exact this
        · exact ⟨st6.fr, st6.al, fun a q => st6.sub a (own_wipes (vs := vs) (by rw [wipes_wipes hv, wipe_wipe hv, hw]; exact q))⟩
        · have := rd6.wiped vs
          rw [wipes_wipes hv, wipe_wipe hv, hw] at this
          exact this
    · rw [if_neg (fun z => by cases z)]
      have k3 : H3 D = some (.lst acc) := st4.fr D _ hacc .lst (rs3.notOwn (.inr rfl))
      have rd4 := rs3.keeps st4 (rs2.keeps st3 rd)
      refine ⟨by omega, acc, done, rest, e3, k3, ?_, ?_, ?_, hr2, hys⟩
      · have := rs4.wipes vs
        rw [hw] at this
        exact this
      · have s5 := (st2.trans st3).trans st4
        exact ⟨s5.fr, s5.al, fun a q => s5.sub a (own_wipes (vs := vs) (by rw [hw]; exact q))⟩
      · have := rd4.wiped vs
        rw [hw] at this
        exact this
  · refine .inl ⟨wk.stop (by omega), ?_⟩
    rw [List.drop_eq_nil_of_le (by omega)] at hrest
    have hrest : R.ok [] ec = .ok rest e2 := hrest
    cases hrest
    rw [List.append_nil] at hys
    subst hys
    obtain ⟨r1, r2, r3⟩ := st_unwipe rs1 hD hno rs2 st2
    exact h1 D acc H2 hD r1 r2 hacc (Rps.mono (S := fun _ => False) ⟨fun _ _ q _ _ => q, fun _ z => z.elim⟩ (fun _ z => z.elim) (fun b q => .inl (r3 b q)) rd)
/-- a list written out -/
theorem sf_lst {es : List PySem.Expr} {g : Env → R (List D)} (h : SL RX Γ C gv K W es g) : SF RX Γ C gv K W (.List es pos) fun e => (g e).bind fun ds e => if ds.length ≤ lim then .ok (.lst ds) e else .no := by
  obtain ⟨t, p, q⟩ := h
  refine ⟨tLst t, fun X ok hK => ⟨pe_lst (p X ok hK), fun i y py spos hy hl hsw => ps_set (by rw [ok.hN]; exact ok.nd) hy hl.1 (pe_lst (p X ok hK)) rfl hl.2⟩, fun B e σ H Q rs h => ?_⟩
  refine q B e σ H _ rs (FPost.bind h fun ds e1 vs H1 _ rs1 _ rl h1 => ?_)
  split at h1
  · rename_i hl
    refine ⟨?_, fun p hp => h1 p vs _ hp (rs1.with_ hp) (rs1.laid hp).2 upd_same ?_⟩
    · rw [← rl.len]
      exact Nat.le_trans hl lim_line
    · refine Rps.mono (Fr.fresh hp) (fun _ z => z.elim) (fun b q => ?_) rl
      rcases q with (q | q) | q
      · exact .inl (.inl q)
      · exact .inr (by rw [q]; exact hp)
      · exact .inl (.inr q)
  · exact h1.elim
end
end Ev
set_option Elab.async false
set_option linter.all false
set_option maxRecDepth 100000
set_option maxHeartbeats 4000000
set_option autoImplicit false
/-! Ev9e: comprehensions of three clauses (printed by mk_lc3.py). -/
namespace Ev
open PySem PySem.Spec PyProof.Rows L2
section
variable {prog : Program} {w : World} {A : Around} {R : Result → Shared → Prop} {s : Shared} {elt t0 i0 t1 i1 t2 i2 : PySem.Expr} {scope : Scope} {pos : Pos} {it acc : Value} {env : PySem.Env}
abbrev lc3X (elt t0 i0 t1 i1 t2 i2 : PySem.Expr) (scope : Scope) (pos : Pos) : PySem.Expr := .ListComp elt [⟨t0, i0, [], 0⟩, ⟨t1, i1, [], 0⟩, ⟨t2, i2, [], 0⟩] scope pos
abbrev nb (prog : Program) (w : World) (A : Around) (env : PySem.Env) (R : Result → Shared → Prop) : Value → Shared → Prop := notedBy (model prog w) A env fun e z => R (.error e) z
theorem turn3_0 : compTurn (lc3X elt t0 i0 t1 i1 t2 i2 scope pos) 0 it acc env = (do
      standAt i0.pos
      match ← pyNext it with
      | none => pure (.done .next)
      | some v =>
        letOwnedTupleGo t0 it v
        assign t0 env v
        let mut ok := true
        for c in ([] : List PySem.Expr) do
          if ok then ok ← isTrue c env (eval c env)
        if ok then
          let x ← eval i1 env
          standAt i1.pos
          let x ← foldedSetIterable i1 env x
          let _ ← runOwn (.compStart (lc3X elt t0 i0 t1 i1 t2 i2 scope pos) 1 (← holding [x] (pyIter x)) acc env) env
        again (.compLoop (lc3X elt t0 i0 t1 i1 t2 i2 scope pos) 0 it acc env)) := by rfl
theorem loop3_0 (hs : ∀ x, foldedSetIterable i1 env x = pure x) (J : Nat → Shared → Prop)
    (turn : ∀ n z, J n z → wpAny (model prog w) A (pyNext it) (fun r z1 => match r with
      | none => R (.ok .next) z1
      | some v => wpAny (model prog w) A (letOwnedTupleGo t0 it v) (fun _ z2 => wpAny (model prog w) A (assign t0 env v) (fun _ z3 => wpAny (model prog w) A (eval i1 env) (fun x z4 => wpAny (model prog w) A (pyIter x) (fun it1 z5 =>
              codeAny (model prog w) A (.compStart (lc3X elt t0 i0 t1 i1 t2 i2 scope pos) 1 it1 acc env) (fun r z6 => match r with
                | .ok _ => ∃ m, m < n ∧ J m z6
                | .error _ => False) z5) (nb prog w A env R) z4) (nb prog w A env R) z3) (nb prog w A env R) z2) (nb prog w A env R) z1) (nb prog w A env R) z)
    (n : Nat) (h : J n s) : codeAny (model prog w) A (.compLoop (lc3X elt t0 i0 t1 i1 t2 i2 scope pos) 0 it acc env) R s := by
  refine codeAny_loop rfl J (fun n z hJ => ?_) n h
  show wpAny _ A ((compTurn (lc3X elt t0 i0 t1 i1 t2 i2 scope pos) 0 it acc env).onRaise (fun x => do noteFrame x env; theTreesLotGoes x)) _ _ z
  refine wpAny_noted ?_
  rw [turn3_0]
  refine wpAny_bind (wpAny_standAt (wpAny_bind (wpAny_mono (turn n z hJ) (fun r z1 h1 => ?_) fun _ _ q => q)))
  cases r with
  | none => exact wpAny_pure h1
  | some v =>
    refine wpAny_bind (wpAny_mono h1 (fun _ z2 h2 => wpAny_bind (wpAny_mono h2 (fun _ z3 h3 => wpAny_bind ?_) fun _ _ q => q)) fun _ _ q => q)
    rw [List.forIn_nil]
    refine wpAny_pure ?_
    show wpAny _ _ (eval i1 env >>= _) _ _ z3
    refine wpAny_bind (wpAny_mono h3 (fun x z4 h4 => wpAny_bind (wpAny_standAt (wpAny_bind (wpAny_of_eq (hs x) (wpAny_bind (wpAny_holding (wpAny_mono h4 (fun it1 z5 h5 => wpAny_bind (wpAny_runOwn ?_)) fun _ _ q => q))))))) fun _ _ q => q)
    rw [Around.mark_none]
    refine codeAny_mono h5 fun r z6 hr => ?_
    cases r with
    | ok f =>
      first
        | exact wpAny_pure ⟨rfl, hr⟩
        | exact wpAny_bind (wpAny_pure (wpAny_pure ⟨rfl, hr⟩))
    | error e => exact hr.elim
theorem turn3_1 : compTurn (lc3X elt t0 i0 t1 i1 t2 i2 scope pos) 1 it acc env = (do
      standAt i1.pos
      match ← pyNext it with
      | none => pure (.done .next)
      | some v =>
        letOwnedTupleGo t1 it v
        assign t1 env v
        let mut ok := true
        for c in ([] : List PySem.Expr) do
          if ok then ok ← isTrue c env (eval c env)
        if ok then
          let x ← eval i2 env
          standAt i2.pos
          let x ← foldedSetIterable i2 env x
          let _ ← runOwn (.compStart (lc3X elt t0 i0 t1 i1 t2 i2 scope pos) 2 (← holding [x] (pyIter x)) acc env) env
        again (.compLoop (lc3X elt t0 i0 t1 i1 t2 i2 scope pos) 1 it acc env)) := by rfl
theorem loop3_1 (hs : ∀ x, foldedSetIterable i2 env x = pure x) (J : Nat → Shared → Prop)
    (turn : ∀ n z, J n z → wpAny (model prog w) A (pyNext it) (fun r z1 => match r with
      | none => R (.ok .next) z1
      | some v => wpAny (model prog w) A (letOwnedTupleGo t1 it v) (fun _ z2 => wpAny (model prog w) A (assign t1 env v) (fun _ z3 => wpAny (model prog w) A (eval i2 env) (fun x z4 => wpAny (model prog w) A (pyIter x) (fun it1 z5 =>
              codeAny (model prog w) A (.compStart (lc3X elt t0 i0 t1 i1 t2 i2 scope pos) 2 it1 acc env) (fun r z6 => match r with
                | .ok _ => ∃ m, m < n ∧ J m z6
                | .error _ => False) z5) (nb prog w A env R) z4) (nb prog w A env R) z3) (nb prog w A env R) z2) (nb prog w A env R) z1) (nb prog w A env R) z)
    (n : Nat) (h : J n s) : codeAny (model prog w) A (.compLoop (lc3X elt t0 i0 t1 i1 t2 i2 scope pos) 1 it acc env) R s := by
  refine codeAny_loop rfl J (fun n z hJ => ?_) n h
  show wpAny _ A ((compTurn (lc3X elt t0 i0 t1 i1 t2 i2 scope pos) 1 it acc env).onRaise (fun x => do noteFrame x env; theTreesLotGoes x)) _ _ z
  refine wpAny_noted ?_
  rw [turn3_1]
  refine wpAny_bind (wpAny_standAt (wpAny_bind (wpAny_mono (turn n z hJ) (fun r z1 h1 => ?_) fun _ _ q => q)))
  cases r with
  | none => exact wpAny_pure h1
  | some v =>
    refine wpAny_bind (wpAny_mono h1 (fun _ z2 h2 => wpAny_bind (wpAny_mono h2 (fun _ z3 h3 => wpAny_bind ?_) fun _ _ q => q)) fun _ _ q => q)
    rw [List.forIn_nil]
    refine wpAny_pure ?_
    show wpAny _ _ (eval i2 env >>= _) _ _ z3
    refine wpAny_bind (wpAny_mono h3 (fun x z4 h4 => wpAny_bind (wpAny_standAt (wpAny_bind (wpAny_of_eq (hs x) (wpAny_bind (wpAny_holding (wpAny_mono h4 (fun it1 z5 h5 => wpAny_bind (wpAny_runOwn ?_)) fun _ _ q => q))))))) fun _ _ q => q)
    rw [Around.mark_none]
    refine codeAny_mono h5 fun r z6 hr => ?_
    cases r with
    | ok f =>
      first
        | exact wpAny_pure ⟨rfl, hr⟩
        | exact wpAny_bind (wpAny_pure (wpAny_pure ⟨rfl, hr⟩))
    | error e => exact hr.elim
theorem turn3_2 : compTurn (lc3X elt t0 i0 t1 i1 t2 i2 scope pos) 2 it acc env = (do
      standAt i2.pos
      match ← pyNext it with
      | none => pure (.done .next)
      | some v =>
        letOwnedTupleGo t2 it v
        assign t2 env v
        let mut ok := true
        for c in ([] : List PySem.Expr) do
          if ok then ok ← isTrue c env (eval c env)
        if ok then
          (do let _ ← call (.builtin "list.append") [acc, ← eval elt env])
        again (.compLoop (lc3X elt t0 i0 t1 i1 t2 i2 scope pos) 2 it acc env)) := by rfl
theorem loop3_2 (J : Nat → Shared → Prop)
    (turn : ∀ n z, J n z → wpAny (model prog w) A (pyNext it) (fun r z1 => match r with
      | none => R (.ok .next) z1
      | some v => wpAny (model prog w) A (letOwnedTupleGo t2 it v) (fun _ z2 => wpAny (model prog w) A (assign t2 env v) (fun _ z3 => wpAny (model prog w) A (eval elt env) (fun x z4 =>
              wpAny (model prog w) A (call (.builtin "list.append") [acc, x]) (fun _ z5 => ∃ m, m < n ∧ J m z5) (nb prog w A env R) z4) (nb prog w A env R) z3) (nb prog w A env R) z2) (nb prog w A env R) z1) (nb prog w A env R) z)
    (n : Nat) (h : J n s) : codeAny (model prog w) A (.compLoop (lc3X elt t0 i0 t1 i1 t2 i2 scope pos) 2 it acc env) R s := by
  refine codeAny_loop rfl J (fun n z hJ => ?_) n h
  show wpAny _ A ((compTurn (lc3X elt t0 i0 t1 i1 t2 i2 scope pos) 2 it acc env).onRaise (fun x => do noteFrame x env; theTreesLotGoes x)) _ _ z
  refine wpAny_noted ?_
  rw [turn3_2]
  refine wpAny_bind (wpAny_standAt (wpAny_bind (wpAny_mono (turn n z hJ) (fun r z1 h1 => ?_) fun _ _ q => q)))
  cases r with
  | none => exact wpAny_pure h1
  | some v =>
    refine wpAny_bind (wpAny_mono h1 (fun _ z2 h2 => wpAny_bind (wpAny_mono h2 (fun _ z3 h3 => wpAny_bind ?_) fun _ _ q => q)) fun _ _ q => q)
    rw [List.forIn_nil]
    refine wpAny_pure ?_
    exact wpAny_bind (wpAny_bind (wpAny_mono h3 (fun x z4 h4 => wpAny_bind (wpAny_mono h4 (fun _ z5 h5 => wpAny_pure (wpAny_pure ⟨rfl, h5⟩)) fun _ _ q => q)) fun _ _ q => q))
theorem start3_1 (h0 : codeAny (model prog w) A (.compLoop (lc3X elt t0 i0 t1 i1 t2 i2 scope pos) 1 it acc env) R s)
    (h : wpAny (model prog w) A (pyIter it) (fun it1 z => codeAny (model prog w) A (.compLoop (lc3X elt t0 i0 t1 i1 t2 i2 scope pos) 1 it1 acc env) R z) (nb prog w A env R) s) :
    codeAny (model prog w) A (.compStart (lc3X elt t0 i0 t1 i1 t2 i2 scope pos) 1 it acc env) R s := by
  refine codeAny_of_tree ?_
  show wpAny _ _ ((compStart (lc3X elt t0 i0 t1 i1 t2 i2 scope pos) 1 it acc env).onRaise (fun x => do noteFrame x env; standAt theWindowsPlace)) _ _ s
  refine wpAny_notedAt ?_
  unfold compStart
  show wpAny _ _ (ask >>= _) _ _ s
  refine wpAny_bind (wpAny_askSetting (wpAny_ite ?_))
  split
  · first
      | exact wpAny_bind (wpAny_pure (wpAny_pure (And.intro rfl h0)))
      | exact wpAny_pure (And.intro rfl h0)
  · first
      | exact wpAny_bind (wpAny_rule (wpAny_bind (wpAny_standAt (wpAny_bind (wpAny_mono h (fun it1 z q => wpAny_pure (And.intro rfl q)) fun _ _ x => x)))))
      | (refine wpAny_bind (wpAny_rule ?_); show wpAny _ _ (standAt i1.pos >>= _) _ _ s; exact wpAny_bind (wpAny_standAt (wpAny_bind (wpAny_mono h (fun it1 z q => wpAny_pure (And.intro rfl q)) fun _ _ x => x))))
theorem start3_2 (h0 : codeAny (model prog w) A (.compLoop (lc3X elt t0 i0 t1 i1 t2 i2 scope pos) 2 it acc env) R s)
    (h : wpAny (model prog w) A (pyIter it) (fun it1 z => codeAny (model prog w) A (.compLoop (lc3X elt t0 i0 t1 i1 t2 i2 scope pos) 2 it1 acc env) R z) (nb prog w A env R) s) :
    codeAny (model prog w) A (.compStart (lc3X elt t0 i0 t1 i1 t2 i2 scope pos) 2 it acc env) R s := by
  refine codeAny_of_tree ?_
  show wpAny _ _ ((compStart (lc3X elt t0 i0 t1 i1 t2 i2 scope pos) 2 it acc env).onRaise (fun x => do noteFrame x env; standAt theWindowsPlace)) _ _ s
  refine wpAny_notedAt ?_
  unfold compStart
  show wpAny _ _ (ask >>= _) _ _ s
  refine wpAny_bind (wpAny_askSetting (wpAny_ite ?_))
  split
  · first
      | exact wpAny_bind (wpAny_pure (wpAny_pure (And.intro rfl h0)))
      | exact wpAny_pure (And.intro rfl h0)
  · first
      | exact wpAny_bind (wpAny_rule (wpAny_bind (wpAny_standAt (wpAny_bind (wpAny_mono h (fun it1 z q => wpAny_pure (And.intro rfl q)) fun _ _ x => x)))))
      | (refine wpAny_bind (wpAny_rule ?_); show wpAny _ _ (standAt i2.pos >>= _) _ _ s; exact wpAny_bind (wpAny_standAt (wpAny_bind (wpAny_mono h (fun it1 z q => wpAny_pure (And.intro rfl q)) fun _ _ x => x))))
end
end Ev
set_option Elab.async false
set_option linter.all false
set_option maxRecDepth 100000
set_option maxHeartbeats 4000000
set_option autoImplicit false
/-! Ev9f: comprehensions of three clauses: the reading. -/
namespace Ev
open PySem PySem.Spec PyProof.Rows L2
/-- one clause's loop: at each turn it stops, whence Nx is reached, or goes on: body, by which the next turn is reached -/
def tTurn (J : It) (Nx : Hp → Prop) (body : V → Hp → (Hp → Prop) → Prop) (H : Hp) : Prop := ∃ W : Nat → Nat → Hp → Prop, (∃ m, W 0 m H) ∧ ∀ i m H, W i m H →
  (J.stop i H ∧ Nx H) ∨ (J.go i H ∧ ∃ N : Hp → Prop, (∀ H', N H' → ∃ m', m' < m ∧ W (i + 1) m' H') ∧ ∀ x H', J.yld i H x H' → body x H' N)
def tLc3 (wi : TI) (g : TG) (wi1 : TI) (g1 : TG) (wi2 : TI) (g2 : TG) (te : TE) (vs vs1 vs2 : List Nat) : TE := fun σ H Q => wi σ H fun J H1 => ∀ D, H1 D = none →
  tTurn J (fun H => Q (.ref D) H) (fun x H' N => g x (wipe σ vs) H' fun σ2 H2 => wipe σ2 vs = wipe σ vs ∧ wi1 σ2 H2 fun J1 H3 =>
    tTurn J1 N (fun x H' N1 => g1 x (wipe σ2 vs1) H' fun σ3 H4 => wipe σ3 vs1 = wipe σ2 vs1 ∧ wi2 σ3 H4 fun J2 H5 =>
      tTurn J2 N1 (fun x H' N2 => g2 x (wipe σ3 vs2) H' fun σ4 H6 => wipe σ4 vs2 = wipe σ3 vs2 ∧ te σ4 H6 fun y H7 => ∃ acc, H7 D = some (.lst acc) ∧ acc.length < sizeLine ∧ N2 (upd H7 D (.lst (acc ++ [y])))) H5) H3) (upd H1 D (.lst []))
section
variable {X : Cx}
theorem lc3_core {pins : List (Addr × Obj)} {s : Shared} {σ : L2.St} {H : Hp} {Q : VK} {elt t0 i0 t1 i1 t2 i2 : PySem.Expr} {scope : Scope} {own : List (Str × Nat)} {vs1 vs2 : List Nat} {pos pos' : Pos} {wi wi1 wi2 : TI} {g g1 g2 : TG} {te : TE} {use : Option (Value → Sem Unit)} {Qf : Value → Shared → Prop}
    (hc : X.calm = true) (hN : X.N.Nodup) (I : Inv X pins σ H s) (hi : PI X t0 i0 wi) (ok : BlkOk X.N X.env.scope scope own) (hv : ∀ i ∈ vs1, i ∈ own.map (·.2)) (hv2 : ∀ i ∈ vs2, i ∈ vs1)
    (hg : ∀ s H C cl fp, PG (X.blk s H scope (compEnvC scope cl C X.env) fp) t0 g) (hs : ∀ x, foldedSetIterable i0 X.env x = pure x)
    (hi1 : ∀ s H C cl fp, PI (X.blk s H scope (compEnvC scope cl C X.env) fp) t1 i1 wi1) (hg1 : ∀ s H C cl fp, PG (X.blk s H scope (compEnvC scope cl C X.env) fp) t1 g1) (hs1 : ∀ env x, foldedSetIterable i1 env x = pure x)
    (hi2 : ∀ s H C cl fp, PI (X.blk s H scope (compEnvC scope cl C X.env) fp) t2 i2 wi2) (hg2 : ∀ s H C cl fp, PG (X.blk s H scope (compEnvC scope cl C X.env) fp) t2 g2) (hs2 : ∀ env x, foldedSetIterable i2 env x = pure x)
    (he : ∀ s H C cl fp, PE (X.blk s H scope (compEnvC scope cl C X.env) fp) elt te) (h : tLc3 wi g wi1 g1 wi2 g2 te (own.map (·.2)) vs1 vs2 σ H Q)
    (hRR : ∀ D C z m H', Inv X pins σ H' z → Q (.ref D) H' → z.heap.Ns C m → FpOk X pins H' C → compPost (model X.prog X.w) X.A X.xe use Qf (.ref D) C (.ok .next) z) :
    wpAny (model X.prog X.w) X.A (comprehension (lc3X elt t0 i0 t1 i1 t2 i2 scope pos) scope X.env pos' (newList []) false (eval i0 X.env) use) Qf X.xe s := by
  have hfree : ∀ y ∈ scope.names, y.2 = .free → ∃ c, X.env.cells.lookup y.1 = some c := fun y hy e => (ok.free y hy e).elim (fun k => I.ok.has _ (.inl k)) fun k => I.ok.has _ (.inr k)
  refine wpAny_comprehension_free (use := use) rfl hs (closure_ok hfree) ok.kind (fun y hy e => by rw [ok.uniq y hy, e]) (thn (hi.run pins s σ H _ I h) fun xv s1 hx => thn hx fun itv z2 h2 => ?_)
  obtain ⟨it, fp, tn, J, H2, e, I2, T, st2, f2, q⟩ := h2
  subst e
  refine wpAny_newObj_type (newEnv_comp ?_) (by show 0 ≤ sizeLine; decide)
  generalize hD : z2.heap.objs.size = D
  have hDn : H2 D = none := I2.hok.fresh (Nat.le_of_eq hD)
  obtain ⟨W, ⟨m0, w0⟩, turn⟩ := q D hDn
  generalize hs3 : ({ z2 with heap := z2.heap.push { cls := .type "list", data := .seq ([] : List Value).toArray } } : Shared) = z3
  have I3 : Inv X pins σ (upd H2 D (.lst [])) z3 := by
    rw [← hs3]
    refine I2.laid (t' := z2.toks) (fun b o e => Heap.get?_push_of_some _ e) (Nat.le_of_eq hD) ⟨Nat.zero_le _, [], 0, .nil, ?_⟩
    rw [← hD]
    exact Heap.get?_push_size _ rfl
  have h3 : z3.heap = z2.heap.push { cls := .type "list", data := .seq ([] : List Value).toArray } := by rw [← hs3]
  have f3 : ∀ b ∈ fp, FpOk X pins (upd H2 D (.lst [])) b ∧ b < z3.heap.objs.size := fun b hb => by
    obtain ⟨o, e, _⟩ := T.obj _ _ st2 b hb
    have hlt := Heap.lt_size e
    refine ⟨⟨?_, (f2 b hb).2⟩, by rw [h3, Heap.size_push]; exact Nat.lt_succ_of_lt hlt⟩
    rw [upd_ne (by rw [← hD]; exact Nat.ne_of_lt hlt)]
    exact (f2 b hb).1
  have st3 : tn 0 z3.heap := T.keep _ _ _ st2 fun b _ o e => by rw [h3]; exact Heap.get?_push_of_some _ e
  have I4 := block_start I3 ok hN f3
  have pg := hg z3 (upd H2 D (.lst [])) z3.heap.objs.size (cellsFrom (z3.heap.objs.size + 1) scope.names (cloFrom X.env.cells scope.names [])) fp
  have pg1 := hg1 z3 (upd H2 D (.lst [])) z3.heap.objs.size (cellsFrom (z3.heap.objs.size + 1) scope.names (cloFrom X.env.cells scope.names [])) fp
  have pg2 := hg2 z3 (upd H2 D (.lst [])) z3.heap.objs.size (cellsFrom (z3.heap.objs.size + 1) scope.names (cloFrom X.env.cells scope.names [])) fp
  have pi1 := hi1 z3 (upd H2 D (.lst [])) z3.heap.objs.size (cellsFrom (z3.heap.objs.size + 1) scope.names (cloFrom X.env.cells scope.names [])) fp
  have pi2 := hi2 z3 (upd H2 D (.lst [])) z3.heap.objs.size (cellsFrom (z3.heap.objs.size + 1) scope.names (cloFrom X.env.cells scope.names [])) fp
  have pe := he z3 (upd H2 D (.lst [])) z3.heap.objs.size (cellsFrom (z3.heap.objs.size + 1) scope.names (cloFrom X.env.cells scope.names [])) fp
  show codeAny _ _ (.compStart (lc3X elt t0 i0 t1 i1 t2 i2 scope pos) 0 (.ref it) (.ref D) (compEnvC scope (cellsFrom (z3.heap.objs.size + 1) scope.names (cloFrom X.env.cells scope.names [])) z3.heap.objs.size X.env)) (compPost (model X.prog X.w) X.A X.xe use Qf (.ref D) z3.heap.objs.size) { z3 with heap := pushCells (z3.heap.push { cls := .type "dict", data := .dict #[] }) scope.names }
  have nfp : ∀ b ∈ fp, (upd H2 D (.lst [])) b = none := fun b hb => (f3 b hb).1.1
  generalize hce : compEnvC scope (cellsFrom (z3.heap.objs.size + 1) scope.names (cloFrom X.env.cells scope.names [])) z3.heap.objs.size X.env = ce at I4 pg pg1 pg2 pi1 pi2 pe ⊢
  have cL : ce.locals = z3.heap.objs.size := by subst hce; rfl
  generalize hH3 : upd H2 D (.lst []) = H3 at I3 I4 pg pg1 pg2 pi1 pi2 pe w0 nfp f3
  generalize hs4 : ({ z3 with heap := pushCells (z3.heap.push { cls := .type "dict", data := .dict #[] }) scope.names } : Shared) = z4 at I4 ⊢
  have st4 : tn 0 z4.heap := T.keep _ _ _ st3 fun b _ o e => by rw [← hs4]; exact pushCells_keeps _ _ _ _ (Heap.get?_push_of_some _ e)
  have stat : ∀ {σ' : L2.St} {H' : Hp} {z : Shared}, Inv (X.blk z3 H3 scope ce fp) [] σ' H' z → (∀ b ∈ fp, H' b = none) → ∀ b ∈ fp, FpOk (X.blk z3 H3 scope ce fp) [] H' b := fun {σ' H' z} I' hn b hb =>
    ⟨hn b hb, (I'.ok.exf b hb).1, I'.ok.exfs b hb, .inl hb, fun x c e => (I'.ok.exf b hb).2 x c e, fun p hp => absurd (show p ∈ ([] : List (Addr × Obj)) ++ [] from hp) (by simp)⟩
  have loop : codeAny (model X.prog X.w) X.A (.compLoop (lc3X elt t0 i0 t1 i1 t2 i2 scope pos) 0 (.ref it) (.ref D) ce) (compPost (model X.prog X.w) X.A X.xe use Qf (.ref D) z3.heap.objs.size) z4 := by
    refine loop3_0 (hs1 ce) (fun n z => ∃ i H', Inv (X.blk z3 H3 scope ce fp) [] (wipe σ (own.map (·.2))) H' z ∧ tn i z.heap ∧ (∀ b ∈ fp, H' b = none) ∧ W i n H') ?_ m0 ⟨0, H3, I4, st4, nfp, w0⟩
    rintro n z5 ⟨i, H5, I5, st5, n5, w5⟩
    rcases turn i n H5 w5 with ⟨stop, qq⟩ | ⟨go, Nx, hNx, step⟩
    · refine thnF (T.done (X.blk z3 H3 scope ce fp) rfl rfl rfl hc i [] z5 _ H5 (fun _ _ => False) I5 (stat I5 n5) st5 stop) fun r z6 ⟨hr, I6⟩ => ?_
      subst hr
      have I7 : Inv X pins σ H5 z6 := I3.call' (ch := fp) I6.os I6.base I6.hok I6.bare fun b hb => ⟨(f3 b hb).1.2.2.2.1, (f3 b hb).1.2.1, (f3 b hb).1.2.2.2.2.1, (f3 b hb).1.2.2.2.2.2⟩
      have nC : H5 z3.heap.objs.size = none := by
        have z : H5 ce.locals = none := I6.free
        rw [cL] at z
        exact z
      obtain ⟨m, hn, _⟩ := I6.loc
      have hn : z6.heap.Ns ce.locals m := hn
      rw [cL] at hn
      exact hRR D z3.heap.objs.size z6 m H5 I7 qq hn (I3.fpOk (Nat.le_refl _) nC)
    · refine thnF (T.item (X.blk z3 H3 scope ce fp) rfl rfl rfl hc i [] z5 _ H5 (fun _ _ => False) I5 (stat I5 n5) st5 go) fun r z6 ⟨u, hr, h6⟩ => ?_
      subst hr
      refine thnF h6 fun _ z7 ⟨x, H7, I7, r7, y7, st7, n7⟩ => ?_
      have I7' := I7.pinned (stat I7 n7) (T.obj _ _ st7)
      refine thnF (pg.run _ z7 _ H7 x u _ I7' r7 (step x H7 y7)) fun _ z8 ⟨σ8, H8, I8, hw8, q8⟩ => ?_
      have fin : ∀ {σ9 : L2.St} {z : Shared} {H' : Hp}, Inv (X.blk z3 H3 scope ce fp) ([] ++ pinsAt fp z7.heap) σ9 H' z → (wipe σ (own.map (·.2))).length = σ9.length → (∀ (j : Nat) v, (wipe σ (own.map (·.2)))[j]? = some (some v) → σ9[j]? = some (some v)) → Nx H' →
          ∃ m, m < n ∧ ∃ i H', Inv (X.blk z3 H3 scope ce fp) [] (wipe σ (own.map (·.2))) H' z ∧ tn i z.heap ∧ (∀ b ∈ fp, H' b = none) ∧ W i m H' := fun {σ9 z H'} I' hl hk nx => by
        obtain ⟨m', hm, w'⟩ := hNx H' nx
        have pin' : ∀ b ∈ fp, ∀ o, z7.heap.get? b = some o → z.heap.get? b = some o ∧ H' b = none := fun b hb o e =>
          let y := I'.pin (b, o) (List.mem_append_right _ (List.mem_append_right _ (mem_pinsAt hb e)))
          ⟨y.1, y.2.1⟩
        refine ⟨m', hm, i + 1, H', (I'.unpinned (pins := [])).weak hl hk, T.keep _ _ _ st7 fun b hb o e => (pin' b hb o e).1, fun b hb => ?_, w'⟩
        obtain ⟨o, e, _⟩ := T.obj _ _ st7 b hb
        exact (pin' b hb o e).2
      have l8 : (wipe σ (own.map (·.2))).length = σ8.length := by rw [← hw8, wipe_length]
      have k9 : ∀ (j : Nat) v, (wipe σ (own.map (·.2)))[j]? = some (some v) → (wipe σ8 vs1)[j]? = some (some v) := fun j v e => by
        rw [← hw8] at e
        obtain ⟨e1, e2⟩ := wipe_some e
        rw [wipe_out fun z => e2 (hv j z)]
        exact e1
      refine thnF (pi1.run _ z8 σ8 H8 _ I8 q8) fun xv z10 hx => thnF hx fun itv z11 h11 => ?_
      obtain ⟨it1, fp1, tn1, J1, H11, e1, I11, T1, st11, f11, W1, ⟨m1, w1⟩, turn1⟩ := h11
      subst e1
      have stat1 : ∀ {H' : Hp}, (∀ b ∈ fp1, H' b = none) → ∀ b ∈ fp1, FpOk (X.blk z3 H3 scope ce fp) ([] ++ pinsAt fp z7.heap) H' b := fun hn b hb => ⟨hn b hb, (f11 b hb).2⟩
      have loop1 : codeAny (model X.prog X.w) X.A (.compLoop (lc3X elt t0 i0 t1 i1 t2 i2 scope pos) 1 (.ref it1) (.ref D) ce)
          (fun r z => match r with
            | .ok _ => ∃ m, m < n ∧ ∃ i H', Inv (X.blk z3 H3 scope ce fp) [] (wipe σ (own.map (·.2))) H' z ∧ tn i z.heap ∧ (∀ b ∈ fp, H' b = none) ∧ W i m H'
            | .error _ => False) z11 := by
        refine loop3_1 (hs2 ce) (fun k z => ∃ j H', Inv (X.blk z3 H3 scope ce fp) ([] ++ pinsAt fp z7.heap) (wipe σ8 vs1) H' z ∧ tn1 j z.heap ∧ (∀ b ∈ fp1, H' b = none) ∧ W1 j k H') ?_ m1 ⟨0, H11, I11.weak (wipe_length _ _) (fun j v e => (wipe_some e).1), st11, fun b hb => (f11 b hb).1, w1⟩
        rintro k z12 ⟨j, H12, I12, st12, n12, w12⟩
        rcases turn1 j k H12 w12 with ⟨stop1, nx1⟩ | ⟨go1, Nx1, hNx1, step1⟩
        · refine thnF (T1.done (X.blk z3 H3 scope ce fp) rfl rfl rfl hc j _ z12 (wipe σ8 vs1) H12 (fun _ _ => False) I12 (stat1 n12) st12 stop1) fun r z13 ⟨hr, I13⟩ => ?_
          subst hr
          exact fin I13 (l8.trans (wipe_length σ8 vs1).symm) k9 nx1
        · refine thnF (T1.item (X.blk z3 H3 scope ce fp) rfl rfl rfl hc j _ z12 (wipe σ8 vs1) H12 (fun _ _ => False) I12 (stat1 n12) st12 go1) fun r z13 ⟨u1, hr, h13⟩ => ?_
          subst hr
          refine thnF h13 fun _ z14 ⟨x1, H14, I14, r14, y14, st14, n14⟩ => ?_
          have I14' := I14.pinned (stat1 n14) (T1.obj _ _ st14)
          refine thnF (pg1.run _ z14 (wipe σ8 vs1) H14 x1 u1 _ I14' r14 (step1 x1 H14 y14)) fun _ z15 ⟨σ15, H15, I15, hw15, q15⟩ => ?_
          have fin1 : ∀ {σ' : L2.St} {z : Shared} {H' : Hp}, Inv (X.blk z3 H3 scope ce fp) (([] ++ pinsAt fp z7.heap) ++ pinsAt fp1 z14.heap) σ' H' z → (wipe σ8 vs1).length = σ'.length → (∀ (j : Nat) v, (wipe σ8 vs1)[j]? = some (some v) → σ'[j]? = some (some v)) → Nx1 H' →
              ∃ m, m < k ∧ ∃ j H', Inv (X.blk z3 H3 scope ce fp) ([] ++ pinsAt fp z7.heap) (wipe σ8 vs1) H' z ∧ tn1 j z.heap ∧ (∀ b ∈ fp1, H' b = none) ∧ W1 j m H' := fun {σ' z H'} I' hl hk nx => by
            obtain ⟨m', hm, w'⟩ := hNx1 H' nx
            have pin' : ∀ b ∈ fp1, ∀ o, z14.heap.get? b = some o → z.heap.get? b = some o ∧ H' b = none := fun b hb o e =>
              let y := I'.pin (b, o) (List.mem_append_right _ (List.mem_append_right _ (mem_pinsAt hb e)))
              ⟨y.1, y.2.1⟩
            refine ⟨m', hm, j + 1, H', I'.unpinned.weak hl hk, T1.keep _ _ _ st14 fun b hb o e => (pin' b hb o e).1, fun b hb => ?_, w'⟩
            obtain ⟨o, e, _⟩ := T1.obj _ _ st14 b hb
            exact (pin' b hb o e).2
          have l15 : (wipe σ8 vs1).length = σ15.length := by rw [← hw15, wipe_length]
          have k15 : ∀ (j : Nat) v, (wipe σ8 vs1)[j]? = some (some v) → (wipe σ15 vs2)[j]? = some (some v) := fun j v e => by
            rw [← hw15] at e
            obtain ⟨e1, e2⟩ := wipe_some e
            rw [wipe_out fun z => e2 (hv2 j z)]
            exact e1
          refine thnF (pi2.run _ z15 σ15 H15 _ I15 q15) fun xv z16 hx => thnF hx fun itv z17 h17 => ?_
          obtain ⟨it2, fp2, tn2, J2, H17, e2, I17, T2, st17, f17, W2, ⟨m2, w2⟩, turn2⟩ := h17
          subst e2
          have stat2 : ∀ {H' : Hp}, (∀ b ∈ fp2, H' b = none) → ∀ b ∈ fp2, FpOk (X.blk z3 H3 scope ce fp) (([] ++ pinsAt fp z7.heap) ++ pinsAt fp1 z14.heap) H' b := fun hn b hb => ⟨hn b hb, (f17 b hb).2⟩
          have loop2 : codeAny (model X.prog X.w) X.A (.compLoop (lc3X elt t0 i0 t1 i1 t2 i2 scope pos) 2 (.ref it2) (.ref D) ce)
              (fun r z => match r with
                | .ok _ => ∃ m, m < k ∧ ∃ j H', Inv (X.blk z3 H3 scope ce fp) ([] ++ pinsAt fp z7.heap) (wipe σ8 vs1) H' z ∧ tn1 j z.heap ∧ (∀ b ∈ fp1, H' b = none) ∧ W1 j m H'
                | .error _ => False) z17 := by
            refine loop3_2 (fun p z => ∃ l H', Inv (X.blk z3 H3 scope ce fp) (([] ++ pinsAt fp z7.heap) ++ pinsAt fp1 z14.heap) (wipe σ15 vs2) H' z ∧ tn2 l z.heap ∧ (∀ b ∈ fp2, H' b = none) ∧ W2 l p H') ?_ m2 ⟨0, H17, I17.weak (wipe_length _ _) (fun j v e => (wipe_some e).1), st17, fun b hb => (f17 b hb).1, w2⟩
            rintro p z18 ⟨l, H18, I18, st18, n18, w18⟩
            rcases turn2 l p H18 w18 with ⟨stop2, nx2⟩ | ⟨go2, Nx2, hNx2, step2⟩
            · refine thnF (T2.done (X.blk z3 H3 scope ce fp) rfl rfl rfl hc l _ z18 (wipe σ15 vs2) H18 (fun _ _ => False) I18 (stat2 n18) st18 stop2) fun r z19 ⟨hr, I19⟩ => ?_
              subst hr
              exact fin1 I19 (l15.trans (wipe_length σ15 vs2).symm) k15 nx2
            · refine thnF (T2.item (X.blk z3 H3 scope ce fp) rfl rfl rfl hc l _ z18 (wipe σ15 vs2) H18 (fun _ _ => False) I18 (stat2 n18) st18 go2) fun r z19 ⟨u2, hr, h19⟩ => ?_
              subst hr
              refine thnF h19 fun _ z20 ⟨x2, H20, I20, r20, y20, st20, n20⟩ => ?_
              have I20' := I20.pinned (stat2 n20) (T2.obj _ _ st20)
              refine thnF (pg2.run _ z20 (wipe σ15 vs2) H20 x2 u2 _ I20' r20 (step2 x2 H20 y20)) fun _ z21 ⟨σ21, H21, I21, hw21, q21⟩ => ?_
              refine thnF (pe.run _ z21 σ21 H21 _ I21 q21) fun z z22 ⟨yv, H22, I22, r22, acc, hD22, hz22, nx⟩ => ?_
              refine app_ok (X := X.blk z3 H3 scope ce fp) I22 hD22 hz22 r22 fun z23 I23 => ?_
              obtain ⟨m', hm, w'⟩ := hNx2 _ nx
              have pin' : ∀ b ∈ fp2, ∀ o, z20.heap.get? b = some o → z23.heap.get? b = some o ∧ upd H22 D (.lst (acc ++ [yv])) b = none := fun b hb o e =>
                let y := I23.pin (b, o) (List.mem_append_right _ (List.mem_append_right _ (mem_pinsAt hb e)))
                ⟨y.1, y.2.1⟩
              refine ⟨m', hm, l + 1, _, I23.unpinned.weak (by rw [← hw21, wipe_length]) (fun j v e => by rw [← hw21] at e; exact (wipe_some e).1), T2.keep _ _ _ st20 fun b hb o e => (pin' b hb o e).1, fun b hb => ?_, w'⟩
              obtain ⟨o, e, _⟩ := T2.obj _ _ st20 b hb
              exact (pin' b hb o e).2
          exact start3_2 loop2 (T2.self X.A 0 _ _ _ st17 loop2)
      exact start3_1 loop1 (T1.self X.A 0 _ _ _ st11 loop1)
  exact codeAny_compStart_list loop (T.self X.A 0 _ _ _ st4 loop)
theorem pe_lc3 {elt t0 i0 t1 i1 t2 i2 : PySem.Expr} {scope : Scope} {own : List (Str × Nat)} {vs1 vs2 : List Nat} {pos : Pos} {wi wi1 wi2 : TI} {g g1 g2 : TG} {te : TE}
    (hc : X.calm = true) (hN : X.N.Nodup) (hi : PI X t0 i0 wi) (ok : BlkOk X.N X.env.scope scope own) (hv : ∀ i ∈ vs1, i ∈ own.map (·.2)) (hv2 : ∀ i ∈ vs2, i ∈ vs1)
    (hg : ∀ s H C cl fp, PG (X.blk s H scope (compEnvC scope cl C X.env) fp) t0 g) (hs : ∀ x, foldedSetIterable i0 X.env x = pure x)
    (hi1 : ∀ s H C cl fp, PI (X.blk s H scope (compEnvC scope cl C X.env) fp) t1 i1 wi1) (hg1 : ∀ s H C cl fp, PG (X.blk s H scope (compEnvC scope cl C X.env) fp) t1 g1) (hs1 : ∀ env x, foldedSetIterable i1 env x = pure x)
    (hi2 : ∀ s H C cl fp, PI (X.blk s H scope (compEnvC scope cl C X.env) fp) t2 i2 wi2) (hg2 : ∀ s H C cl fp, PG (X.blk s H scope (compEnvC scope cl C X.env) fp) t2 g2) (hs2 : ∀ env x, foldedSetIterable i2 env x = pure x)
    (he : ∀ s H C cl fp, PE (X.blk s H scope (compEnvC scope cl C X.env) fp) elt te) : PE X (lc3X elt t0 i0 t1 i1 t2 i2 scope pos) (tLc3 wi g wi1 g1 wi2 g2 te (own.map (·.2)) vs1 vs2) := by
  refine ⟨fun pins s σ H Q I h => ?_⟩
  rw [eval_ListComp]
  refine lc3_core hc hN I hi ok hv hv2 hg hs hi1 hg1 hs1 hi2 hg2 hs2 he h fun D C z m H' I' q hn f => ⟨m, hn, fun h'' sb => ?_⟩
  obtain ⟨f0, f1, f2, f3, f4, f5⟩ := f
  exact ⟨.ref D, H', I'.turned (t' := z.toks) (fun b o hb e => (sb.2 b hb).trans e) f0 f1 f3 f4 f5, rfl, q⟩
end
end Ev
set_option Elab.async false
set_option linter.all false
set_option maxRecDepth 100000
set_option maxHeartbeats 4000000
set_option autoImplicit false
/-! Ev9g: comprehensions of three clauses: what they compute. -/
namespace Ev
open PySem PySem.Spec PyProof.Rows L2
variable [TabT]
section
variable {RX : RXT} {Γ : Gam} {C : Ctx} {gv : Nat → V} {K : PySem.W.Frag} {W : WX} {pos : Pos}
def lc3F (vs : List Nat) (t : Tg) (fi : Env → R (List D)) (f1 : Env → R (List D)) (vs1 : List Nat) (t1 : Tg) (f2 : Env → R (List D)) (vs2 : List Nat) (t2 : Tg) (fc fe : Env → R D) : Env → R D := fun e => (fi e).bind fun ds e => match vs.all fun v => bare e v with
    | true => match compL3 vs t f1 vs1 t1 f2 vs2 t2 fc fe ds e with
      | .ok ys e1 => if ys.length ≤ lim then .ok (.lst ys) (backs e e1 vs) else .no
      | _ => .no
    | false => .no
theorem compL3_cons {vs vs1 vs2 : List Nat} {t t1 t2 : Tg} {c f : Env → R D} {s1 s2 : Env → R (List D)} {d : D} {ds rest : List D} {e e2 : Env} (h : compL3 vs t s1 vs1 t1 s2 vs2 t2 c f (d :: ds) e = .ok rest e2) :
    ∃ eb ds1 e4 ys1 e5 ys, bindT t d (wipes e vs) = some eb ∧ s1 eb = .ok ds1 e4 ∧ compL2 vs1 t1 (fun e => .ok (.bl true) e) s2 vs2 t2 c f ds1 e4 = .ok ys1 e5 ∧ compL3 vs t s1 vs1 t1 s2 vs2 t2 c f ds e5 = .ok ys e2 ∧ rest = ys1 ++ ys := by
  unfold compL3 at h
  cases z1 : bindT t d (wipes e vs) with
  | none => rw [z1] at h; cases h
  | some eb =>
    rw [z1] at h
    replace h : (match s1 eb with
      | .ok ds1 e2 => match compL2 vs1 t1 (fun e => .ok (.bl true) e) s2 vs2 t2 c f ds1 e2 with
        | .ok ys1 e3 => (compL3 vs t s1 vs1 t1 s2 vs2 t2 c f ds e3).bind fun ys e4 => .ok (ys1 ++ ys) e4
        | _ => .no
      | _ => .no) = .ok rest e2 := h
    cases z3 : s1 eb with
    | ok ds1 e4 =>
      rw [z3] at h
      replace h : (match compL2 vs1 t1 (fun e => .ok (.bl true) e) s2 vs2 t2 c f ds1 e4 with
        | .ok ys1 e3 => (compL3 vs t s1 vs1 t1 s2 vs2 t2 c f ds e3).bind fun ys e4 => .ok (ys1 ++ ys) e4
        | _ => .no) = .ok rest e2 := h
      cases z4 : compL2 vs1 t1 (fun e => .ok (.bl true) e) s2 vs2 t2 c f ds1 e4 with
      | ok ys1 e5 =>
        rw [z4] at h
        replace h : ((compL3 vs t s1 vs1 t1 s2 vs2 t2 c f ds e5).bind fun ys e4 => .ok (ys1 ++ ys) e4) = .ok rest e2 := h
        cases z5 : compL3 vs t s1 vs1 t1 s2 vs2 t2 c f ds e5 with
        | ok ys e6 =>
          rw [z5] at h
          replace h : R.ok (ys1 ++ ys) e6 = .ok rest e2 := h
          cases h
          exact ⟨eb, ds1, e4, ys1, e5, ys, rfl, z3, z4, z5, rfl⟩
        | ex _ _ => rw [z5] at h; cases h
        | no => rw [z5] at h; cases h
      | ex _ _ => rw [z4] at h; cases h
      | no => rw [z4] at h; cases h
    | ex _ _ => rw [z3] at h; cases h
    | no => rw [z3] at h; cases h
theorem compL2_yes {vs vs1 : List Nat} {t t1 : Tg} {c1 f : Env → R D} {s1 : Env → R (List D)} {d : D} {ds rest : List D} {e e2 : Env} (h : compL2 vs t (fun e => .ok (.bl true) e) s1 vs1 t1 c1 f (d :: ds) e = .ok rest e2) :
    ∃ eb ds1 e4 ys1 e5 ys, bindT t d (wipes e vs) = some eb ∧ s1 eb = .ok ds1 e4 ∧ compL vs1 t1 c1 f ds1 e4 = .ok ys1 e5 ∧ compL2 vs t (fun e => .ok (.bl true) e) s1 vs1 t1 c1 f ds e5 = .ok ys e2 ∧ rest = ys1 ++ ys := by
  obtain ⟨eb, b, e3, h1, h2, h3⟩ := compL2_cons h
  replace h2 : R.ok (D.bl true) eb = .ok (.bl b) e3 := h2
  cases h2
  rcases h3 with ⟨_, ds1, e4, ys1, e5, ys, q1, q2, q3, q4⟩ | ⟨z, _⟩
  · exact ⟨eb, ds1, e4, ys1, e5, ys, h1, q1, q2, q3, q4⟩
  · cases z
theorem lc3F_lst {vs vs1 vs2 : List Nat} {t t1 t2 : Tg} {fi f1 f2 : Env → R (List D)} {fc fe : Env → R D} {e : Env} : isLstR (lc3F vs t fi f1 vs1 t1 f2 vs2 t2 fc fe e) := fun d e' h => by
  unfold lc3F at h
  cases z1 : fi e with
  | ok ds e1 =>
    rw [z1] at h
    replace h : (match vs.all fun v => bare e1 v with
    | true => match compL3 vs t f1 vs1 t1 f2 vs2 t2 fc fe ds e1 with
      | .ok ys e2 => if ys.length ≤ lim then R.ok (D.lst ys) (backs e1 e2 vs) else .no
      | _ => .no
    | false => .no) = .ok d e' := h
    split at h
    · split at h
      · split at h
        · cases h; exact ⟨_, rfl⟩
        · cases h
      · cases h
    · cases h
  | ex _ _ => rw [z1] at h; cases h
  | no => rw [z1] at h; cases h
/-- the loop of the second clause, of three -/
theorem inner2_ok {B : Addr → Prop} {D : Addr} {vs1 vs2 : List Nat} {t1 t2 : Tg} {f2 : Env → R (List Ev.D)} {fe : Env → R Ev.D} {g1 g2 : TG} {wi2 : TI} {te : TE} {ds1 ys1 done0 : List Ev.D} {E1 e3 e4 : Env} {S1 σ2 : L2.St} {H1 H4 : Hp} {acc0 : List V} {J1 : It} {Nx : Hp → Prop}
    (qg1 : ∀ B e σ H d v (Q : L2.St → Hp → Prop), RSt K B H e σ → Rp K (Of B e σ) H d v → (match bindT t1 d e with
      | some e' => ∀ σ', RSt K B H e' σ' → Stp H e σ H e' σ' → (∀ j, j ∉ t1.slots → σ'[j]? = σ[j]?) → Q σ' H
      | none => False) → g1 v σ H Q)
    (qg2 : ∀ B e σ H d v (Q : L2.St → Hp → Prop), RSt K B H e σ → Rp K (Of B e σ) H d v → (match bindT t2 d e with
      | some e' => ∀ σ', RSt K B H e' σ' → Stp H e σ H e' σ' → (∀ j, j ∉ t2.slots → σ'[j]? = σ[j]?) → Q σ' H
      | none => False) → g2 v σ H Q)
    (qi2 : ∀ B e σ H Q, RSt K B H e σ → Post RX K W0 B e σ H (Wk K) (f2 e) Q → wi2 σ H Q) (qe : ∀ B e σ H Q, RSt K B H e σ → PostE RX K W0 B e σ H (fe e) Q → te σ H Q)
    (hts1 : ∀ i, i ∈ t1.slots → i ∈ vs1) (hts2 : ∀ i, i ∈ t2.slots → i ∈ vs2) (hv : ∀ i, i ∈ vs2 → i ∈ vs1) (hD : H1 D = none) (s0 : Stp H1 E1 S1 H4 e3 σ2) (rs : RSt K (With B D) H4 e3 σ2) (hacc0 : H4 D = some (.lst acc0)) (rd0 : Rps K (Of (With B D) e3 σ2) H4 done0 acc0) (w1 : Wk K (Of (With B D) e3 σ2) H4 ds1 J1)
    (hcl : compL2 vs1 t1 (fun e => .ok (.bl true) e) f2 vs2 t2 (fun e => .ok (.bl true) e) fe ds1 e3 = .ok ys1 e4) (hlim : (done0 ++ ys1).length ≤ lim)
    (fin : ∀ H acc, H D = some (.lst acc) → RSt K (With B D) H (wipes e4 vs1) (wipe σ2 vs1) → Stp H1 E1 S1 H (wipes e4 vs1) (wipe σ2 vs1) → Rps K (Of (With B D) (wipes e4 vs1) (wipe σ2 vs1)) H (done0 ++ ys1) acc → Nx H) :
    tTurn J1 Nx (fun x H' N1 => g1 x (wipe σ2 vs1) H' fun σ3 H5 => wipe σ3 vs1 = wipe σ2 vs1 ∧ wi2 σ3 H5 fun J2 H6 =>
      tTurn J2 N1 (fun x H' N2 => g2 x (wipe σ3 vs2) H' fun σ4 H7 => wipe σ4 vs2 = wipe σ3 vs2 ∧ te σ4 H7 fun y H8 => ∃ acc, H8 D = some (.lst acc) ∧ acc.length < sizeLine ∧ N2 (upd H8 D (.lst (acc ++ [y])))) H6) H4 := by
  have nD : ¬ OwnAt (wipes e3 vs1) (wipe σ2 vs1) D := (rs.wipes vs1).notOwn (.inr rfl)
  have nD3 : H4 D ≠ none := by rw [hacc0]; exact fun z => by cases z
  refine ⟨fun j k H => j + k = ds1.length ∧ ∃ acc done rest ec, H D = some (.lst acc) ∧ RSt K (With B D) H (wipes ec vs1) (wipe σ2 vs1) ∧ Stp H1 E1 S1 H (wipes ec vs1) (wipe σ2 vs1) ∧
    (∀ a o, H4 a = some o → NT o → ¬ OwnAt (wipes e3 vs1) (wipe σ2 vs1) a → a ≠ D → H a = some o) ∧ (∀ a, H4 a ≠ none → H a ≠ none) ∧ (∀ a, OwnAt (wipes ec vs1) (wipe σ2 vs1) a → OwnAt (wipes e3 vs1) (wipe σ2 vs1) a ∨ H4 a = none) ∧
    Rps K (Of (With B D) (wipes ec vs1) (wipe σ2 vs1)) H done acc ∧ compL2 vs1 t1 (fun e => .ok (.bl true) e) f2 vs2 t2 (fun e => .ok (.bl true) e) fe (ds1.drop j) ec = .ok rest e4 ∧ done0 ++ ys1 = done ++ rest, ⟨ds1.length, by omega, acc0, done0, ys1, e3, hacc0, rs.wipes vs1, ⟨s0.fr, s0.al, fun a q => s0.sub a (own_wipes q)⟩, fun a o q _ _ _ => q, fun a q => q, fun a q => .inl q, rd0.wiped vs1, hcl, rfl⟩, ?_⟩
  rintro j k H2 ⟨him, acc, done, rest, ec, hacc, rs2, st2, fr2, al2, sub2, rd, hrest, hys⟩
  have wk : Wk K (Of (With B D) (wipes ec vs1) (wipe σ2 vs1)) H2 ds1 J1 := Wk.mono (S := fun a => OwnAt (wipes e3 vs1) (wipe σ2 vs1) a ∨ a = D) ⟨fun a o q tt n => fr2 a o q tt (fun z => n (.inl z)) fun z => n (.inr z), fun a z => by
      rcases z with z | z
      · exact (rs.wipes vs1).ls z
      · rw [z]; exact ⟨_, hacc0, .lst⟩⟩ (fun a z => by
      rcases z with z | z
      · exact .inr (own_wipes z)
      · exact .inl (.inr z)) (fun a z => by
    rcases z with z | z
    · exact .inl (.inl z)
    · exact (sub2 a z).imp (fun w => .inr (own_wipes w)) id) w1
  have hdl := rd.len
  by_cases hm : j < ds1.length
  · have hd : ds1[j]? = some ds1[j] := List.getElem?_eq_getElem hm
    rw [List.drop_eq_getElem_cons hm] at hrest
    obtain ⟨eb, ds2, e5, ys2, e6, ys', hb1, hf, hin, hr2, rfl⟩ := compL2_yes hrest
    refine .inr ⟨(wk.go hd).1, fun H' => j + 1 + (k - 1) = ds1.length ∧ ∃ acc done rest ec, H' D = some (.lst acc) ∧ RSt K (With B D) H' (wipes ec vs1) (wipe σ2 vs1) ∧ Stp H1 E1 S1 H' (wipes ec vs1) (wipe σ2 vs1) ∧
      (∀ a o, H4 a = some o → NT o → ¬ OwnAt (wipes e3 vs1) (wipe σ2 vs1) a → a ≠ D → H' a = some o) ∧ (∀ a, H4 a ≠ none → H' a ≠ none) ∧ (∀ a, OwnAt (wipes ec vs1) (wipe σ2 vs1) a → OwnAt (wipes e3 vs1) (wipe σ2 vs1) a ∨ H4 a = none) ∧
      Rps K (Of (With B D) (wipes ec vs1) (wipe σ2 vs1)) H' done acc ∧ compL2 vs1 t1 (fun e => .ok (.bl true) e) f2 vs2 t2 (fun e => .ok (.bl true) e) fe (ds1.drop (j + 1)) ec = .ok rest e4 ∧ done0 ++ ys1 = done ++ rest, fun H' w => ⟨k - 1, by omega, w⟩, fun xv H' hy => ?_⟩
    obtain ⟨nx, rx⟩ := (wk.go hd).2 xv H' hy
    have stn := (nx.rst rs2).2
    have rd := rs2.keeps stn rd
    have hacc := nx.keep hacc
    have st2 := st2.trans stn
    have fr2 := fun a o q tt n nd => nx.keep (fr2 a o q tt n nd)
    have al2 := fun a q => nx.al (al2 a q)
    have wk := wk.keep rs2 stn
    have rs2 := (nx.rst rs2).1
    refine qg1 (With B D) (wipes ec vs1) (wipe σ2 vs1) H' ds1[j] xv _ rs2 rx ?_
    rw [hb1]
    intro σ3 rs3 st3 o3
    have hw : wipe σ3 vs1 = wipe σ2 vs1 := by
      refine wipe_eq ?_ fun i hi => ?_
      · have q1 := rs3.len
        have q2 := rs2.len
        have q3 := bindT_len hb1
        rw [wipe_length] at q2
        omega
      · rw [o3 i fun z => hi (hts1 i z), wipe_out hi]
    refine ⟨hw, qi2 (With B D) eb σ3 H' _ rs3 ?_⟩
    rw [hf]
    intro J2 H5 rs5 st5 w5
    have k5 : H5 D = some (.lst acc) := st5.fr D _ hacc .lst (rs3.notOwn (.inr rfl))
    have rd5 := rs3.keeps st5 (rs2.keeps st3 rd)
    have s35 := st3.trans st5
    -- who owned a slot now, owned it then, or is new
    have own5 : ∀ a, OwnAt e5 σ3 a → OwnAt (wipes e3 vs1) (wipe σ2 vs1) a ∨ H4 a = none := fun a q => by
      rcases s35.sub a q with w | w
      · exact sub2 a w
      · refine .inr ?_
        cases z : H4 a with
        | none => rfl
        | some o => exact absurd w (al2 a (by rw [z]; exact fun w => by cases w))
    have d1 : ∀ a o, H4 a = some o → NT o → ¬ OwnAt (wipes e3 vs1) (wipe σ2 vs1) a → a ≠ D → H5 a = some o := fun a o q tt n nd => by
      refine s35.fr a o (fr2 a o q tt n nd) tt fun z => ?_
      rcases sub2 a z with w | w
      · exact n w
      · rw [w] at q; cases q
    have d2 : ∀ a, H4 a ≠ none → H5 a ≠ none := fun a q => s35.al a (al2 a q)
    refine inner_ok (RX := RX) (B := B) (D := D) (E1 := E1) (S1 := S1) (H1 := H1) (g1 := g2) (tt1 := fun σ H Q => Q true H) (fc1 := fun e => .ok (.bl true) e) qg2 (fun B e σ H Q rs h => h true H rs .refl rfl) qe hts2 hD ((st2.trans st3).trans st5) rs5 k5 rd5 w5 hin ?_ fun H acc' ha' rs6 st6 c1 c2 c3 rd6 => ?_
    · have : (done0 ++ ys1).length = (done ++ ys2).length + ys'.length := by rw [hys, List.length_append, List.length_append, List.length_append]; omega
      omega
    · refine ⟨by omega, acc', done ++ ys2, ys', e6, ha', ?_, ?_, ?_, ?_, ?_, ?_, hr2, by rw [hys, List.append_assoc]⟩
      · have := rs6.wipes vs1
        rw [wipes_wipes hv, wipe_wipe hv, hw] at this
        exact this
      · exact ⟨st6.fr, st6.al, fun a q => st6.sub a (own_wipes (vs := vs1) (by rw [wipes_wipes hv, wipe_wipe hv, hw]; exact q))⟩
      · intro a o q tt n nd
        refine c1 a o (d1 a o q tt n nd) tt (fun z => ?_) nd
        rcases own5 a (own_wipes z) with w | w
        · exact n w
        · rw [w] at q; cases q
      · exact fun a q => c2 a (d2 a q)
      · intro a q
        rcases c3 a (own_wipes (vs := vs1) (by rw [wipes_wipes hv, wipe_wipe hv, hw]; exact q)) with w | w
        · exact own5 a (own_wipes w)
        · refine .inr ?_
          cases z : H4 a with
          | none => rfl
          | some o => exact absurd w (d2 a (by rw [z]; exact fun w => by cases w))
      · have := rd6.wiped vs1
        rw [wipes_wipes hv, wipe_wipe hv, hw] at this
        exact this
  · refine .inl ⟨wk.stop (by omega), ?_⟩
    rw [List.drop_eq_nil_of_le (by omega)] at hrest
    have hrest : R.ok [] ec = .ok rest e4 := hrest
    cases hrest
    rw [List.append_nil] at hys
    rw [← hys] at rd
    exact fin H2 acc hacc rs2 st2 rd
theorem se_lc3 {vs vs1 vs2 : List Nat} {t t1 t2 : Tg} {x tg it tg1 it1 tg2 it2 : PySem.Expr} {scope : Scope} {fi f1 f2 : Env → R (List D)} {fe : Env → R D}
    (hb : blkC Γ.N Γ.sc scope (ownOf Γ.N vs) = true) (hset : isSet it = false) (hset1 : isSet it1 = false) (hset2 : isSet it2 = false) (hts : (t.slots.all fun i => vs.contains i) = true) (hts1 : (t1.slots.all fun i => vs1.contains i) = true) (hts2 : (t2.slots.all fun i => vs2.contains i) = true) (hvv : (vs1.all fun i => vs.contains i) = true) (hvv2 : (vs2.all fun i => vs1.contains i) = true)
    (hi : SI RX Γ C gv K W tg it fi) (hg : SG RX (Γ.blk scope) C gv K W0 t tg) (hi1 : SI RX (Γ.blk scope) C gv K W0 tg1 it1 f1) (hg1 : SG RX (Γ.blk scope) C gv K W0 t1 tg1) (hi2 : SI RX (Γ.blk scope) C gv K W0 tg2 it2 f2) (hg2 : SG RX (Γ.blk scope) C gv K W0 t2 tg2)
    (he : SE RX (Γ.blk scope) C gv K W0 x fe) : SE RX Γ C gv K W (lc3X x tg it tg1 it1 tg2 it2 scope pos) (lc3F vs t fi f1 vs1 t1 f2 vs2 t2 (fun e => .ok (.bl true) e) fe) := by
  obtain ⟨wi, pi, qi⟩ := hi
  obtain ⟨g, pg, qg⟩ := hg
  obtain ⟨wi1, pi1, qi1⟩ := hi1
  obtain ⟨g1, pg1, qg1⟩ := hg1
  obtain ⟨wi2, pi2, qi2⟩ := hi2
  obtain ⟨g2, pg2, qg2⟩ := hg2
  obtain ⟨te, pe, qe⟩ := he
  have bk := blkOk_by hb
  have hv : ∀ i, i ∈ vs1 → i ∈ vs := fun i hi => List.contains_iff_mem.mp (List.all_eq_true.mp hvv i hi)
  have hv2 : ∀ i, i ∈ vs2 → i ∈ vs1 := fun i hi => List.contains_iff_mem.mp (List.all_eq_true.mp hvv2 i hi)
  have hts : ∀ i, i ∈ t.slots → i ∈ vs := fun i hi => List.contains_iff_mem.mp (List.all_eq_true.mp hts i hi)
  have hts1 : ∀ i, i ∈ t1.slots → i ∈ vs1 := fun i hi => List.contains_iff_mem.mp (List.all_eq_true.mp hts1 i hi)
  have hts2 : ∀ i, i ∈ t2.slots → i ∈ vs2 := fun i hi => List.contains_iff_mem.mp (List.all_eq_true.mp hts2 i hi)
  refine ⟨tLc3 wi g wi1 g1 wi2 g2 te ((ownOf Γ.N vs).map (·.2)) vs1 vs2, fun X ok hK => ?_, fun B e σ H Q rs h => ?_⟩
  · have hv' : ∀ i ∈ vs1, i ∈ (ownOf Γ.N vs).map (·.2) := fun i hi => by rw [own_snd]; exact hv i hi
    exact pe_lc3 (pos := pos) ok.calm (by rw [ok.hN]; exact ok.nd) (pi X ok hK) (by rw [ok.hN, ok.hsc]; exact bk) hv' hv2 (fun s H c cl fp => pg _ (ok.blk bk s H c cl fp) hK) (no_fold hset)
      (fun s H c cl fp => pi1 _ (ok.blk bk s H c cl fp) hK) (fun s H c cl fp => pg1 _ (ok.blk bk s H c cl fp) hK) (fun env => no_fold hset1) (fun s H c cl fp => pi2 _ (ok.blk bk s H c cl fp) hK) (fun s H c cl fp => pg2 _ (ok.blk bk s H c cl fp) hK) (fun env => no_fold hset2) (fun s H c cl fp => pe _ (ok.blk bk s H c cl fp) hK)
  rw [own_snd]
  have h : FPost RX K W B e σ H (lc3F vs t fi f1 vs1 t1 f2 vs2 t2 (fun e => .ok (.bl true) e) fe e) Q := Post.fresh rs lc3F_lst h
  refine qi B e σ H _ rs (FPost.bind h fun ds e1 J H1 _ rs1 st1 w1 h1 => ?_)
  cases ha : vs.all fun v => bare e1 v with
  | false => rw [ha] at h1; exact h1.elim
  | true =>
  rw [ha] at h1
  replace h1 : FPost RX K W B e1 σ H1 (match compL3 vs t f1 vs1 t1 f2 vs2 t2 (fun e => .ok (.bl true) e) fe ds e1 with
      | .ok ys e2 => if ys.length ≤ lim then .ok (.lst ys) (backs e1 e2 vs) else .no
      | _ => .no) Q := h1
  cases hcl : compL3 vs t f1 vs1 t1 f2 vs2 t2 (fun e => .ok (.bl true) e) fe ds e1 with
  | ex _ _ => rw [hcl] at h1; exact h1.elim
  | no => rw [hcl] at h1; exact h1.elim
  | ok ys e2 =>
  rw [hcl] at h1
  replace h1 : FPost RX K W B e1 σ H1 (if ys.length ≤ lim then .ok (.lst ys) (backs e1 e2 vs) else .no) Q := h1
  split at h1
  case isFalse => exact h1.elim
  case isTrue hl =>
  have hno : ∀ i ∈ vs, ∀ m ds, e1[i]? ≠ some (some (Sl.ow m ds)) := fun i hi m ds z => by
    have := List.all_eq_true.mp ha i hi
    unfold bare getO getM at this
    rw [z] at this
    cases m <;> cases this
  intro D hD
  refine ⟨fun i m H => i + m = ds.length ∧ ∃ acc done rest ec, H D = some (.lst acc) ∧ RSt K (With B D) H (wipes ec vs) (wipe σ vs) ∧ Stp H1 (wipes e1 vs) (wipe σ vs) H (wipes ec vs) (wipe σ vs) ∧
    Rps K (Of (With B D) (wipes ec vs) (wipe σ vs)) H done acc ∧ compL3 vs t f1 vs1 t1 f2 vs2 t2 (fun e => .ok (.bl true) e) fe (ds.drop i) ec = .ok rest e2 ∧ ys = done ++ rest, ⟨ds.length, by omega, [], [], ys, e1, upd_same, (rs1.with_ hD).wipes vs, ((rs1.wipes vs).laid hD).2, .nil, hcl, rfl⟩, ?_⟩
  rintro i m H2 ⟨him, acc, done, rest, ec, hacc, rs2, st2, rd, hrest, hys⟩
  have wk : Wk K (Of (With B D) (wipes ec vs) (wipe σ vs)) H2 ds J := Wk.mono (S := OwnAt (wipes e1 vs) (wipe σ vs)) ⟨st2.fr, fun a z => (rs1.wipes vs).ls z⟩ (fun a z => .inr (own_wipes z)) (fun a z => by
    rcases z with (z | z) | z
    · exact .inl (.inl z)
    · exact .inr (by rw [z]; exact hD)
    · exact (st2.sub a z).imp (fun w => .inr (own_wipes w)) id) w1
  have hdl := rd.len
  by_cases hm : i < ds.length
  · have hd : ds[i]? = some ds[i] := List.getElem?_eq_getElem hm
    rw [List.drop_eq_getElem_cons hm] at hrest
    obtain ⟨eb, ds1, e4, ys1, e5, ys', hb1, hf, hin, hr2, rfl⟩ := compL3_cons hrest
    refine .inr ⟨(wk.go hd).1, fun H' => i + 1 + (m - 1) = ds.length ∧ ∃ acc done rest ec, H' D = some (.lst acc) ∧ RSt K (With B D) H' (wipes ec vs) (wipe σ vs) ∧ Stp H1 (wipes e1 vs) (wipe σ vs) H' (wipes ec vs) (wipe σ vs) ∧
      Rps K (Of (With B D) (wipes ec vs) (wipe σ vs)) H' done acc ∧ compL3 vs t f1 vs1 t1 f2 vs2 t2 (fun e => .ok (.bl true) e) fe (ds.drop (i + 1)) ec = .ok rest e2 ∧ ys = done ++ rest, fun H' w => ⟨m - 1, by omega, w⟩, fun xv H' hy => ?_⟩
    obtain ⟨nx, rx⟩ := (wk.go hd).2 xv H' hy
    have stn := (nx.rst rs2).2
    have rd := rs2.keeps stn rd
    have hacc := nx.keep hacc
    have st2 := st2.trans stn
    have wk := wk.keep rs2 stn
    have rs2 := (nx.rst rs2).1
    refine qg (With B D) (wipes ec vs) (wipe σ vs) H' ds[i] xv _ rs2 rx ?_
    rw [hb1]
    intro σ2 rs3 st3 o3
    have hw : wipe σ2 vs = wipe σ vs := by
      refine wipe_eq ?_ fun j hj => ?_
      · have q1 := rs3.len
        have q2 := rs2.len
        have q3 := bindT_len hb1
        rw [wipe_length] at q2
        omega
      · rw [o3 j fun z => hj (hts j z), wipe_out hj]
    refine ⟨hw, qi1 (With B D) eb σ2 H' _ rs3 ?_⟩
    rw [hf]
    intro J1 H4 rs5 st5 w5
    have k4 : H4 D = some (.lst acc) := st5.fr D _ hacc .lst (rs3.notOwn (.inr rfl))
    have rd4 := rs3.keeps st5 (rs2.keeps st3 rd)
    refine inner2_ok (RX := RX) (B := B) (D := D) (E1 := wipes e1 vs) (S1 := wipe σ vs) (H1 := H1) qg1 qg2 qi2 qe hts1 hts2 hv2 hD ((st2.trans st3).trans st5) rs5 k4 rd4 w5 hin ?_ fun H acc' ha' rs6 st6 rd6 => ?_
    · have : ys.length = (done ++ ys1).length + ys'.length := by rw [hys, List.length_append, List.length_append, List.length_append]; omega
      omega
    · refine ⟨by omega, acc', done ++ ys1, ys', e5, ha', ?_, ?_, ?_, hr2, by rw [hys, List.append_assoc]⟩
      · have := rs6.wipes vs
        rw [wipes_wipes hv, wipe_wipe hv, hw] at this
        exact this
      · exact ⟨st6.fr, st6.al, fun a q => st6.sub a (own_wipes (vs := vs) (by rw [wipes_wipes hv, wipe_wipe hv, hw]; exact q))⟩
      · have := rd6.wiped vs
        rw [wipes_wipes hv, wipe_wipe hv, hw] at this
        exact this
  · refine .inl ⟨wk.stop (by omega), ?_⟩
    rw [List.drop_eq_nil_of_le (by omega)] at hrest
    have hrest : R.ok [] ec = .ok rest e2 := hrest
    cases hrest
    rw [List.append_nil] at hys
    subst hys
    obtain ⟨r1, r2, r3⟩ := st_unwipe rs1 hD hno rs2 st2
    exact h1 D acc H2 hD r1 r2 hacc (Rps.mono (S := fun _ => False) ⟨fun _ _ q _ _ => q, fun _ z => z.elim⟩ (fun _ z => z.elim) (fun b q => .inl (r3 b q)) rd)
end
end Ev
set_option Elab.async false
set_option linter.all false
set_option maxRecDepth 100000
set_option maxHeartbeats 4000000
set_option autoImplicit false
/-! Ev9b: an expression leaves a slot that holds a value as it is. -/
namespace Ev
/-- f leaves values in their slots -/
def Kp {a : Type} (f : Env → R a) : Prop := ∀ e d e', f e = .ok d e' → e'.length = e.length ∧ ∀ (i : Nat) (x : D), e[i]? = some (some (Sl.val x)) → e'[i]? = some (some (Sl.val x))
theorem Kp.bind {a b : Type} {f : Env → R a} {g : a → Env → R b} (hf : Kp f) (hg : ∀ x, Kp (g x)) : Kp fun e => (f e).bind g := fun e d e' h => by
  replace h : (f e).bind g = .ok d e' := h
  cases q : f e with
  | ok y e1 =>
    rw [q] at h
    obtain ⟨l1, k1⟩ := hf e y e1 q
    obtain ⟨l2, k2⟩ := hg y e1 d e' h
    exact ⟨l2.trans l1, fun i x hx => k2 i x (k1 i x hx)⟩
  | ex y e1 => rw [q] at h; cases h
  | no => rw [q] at h; cases h
theorem Kp.of {a : Type} {o : Option a} : Kp fun e => R.of o e := fun e d e' h => by
  cases o with
  | none => cases h
  | some y => cases h; exact ⟨rfl, fun i x hx => hx⟩
theorem Kp.ok {a : Type} {y : a} : Kp fun e => R.ok y e := fun e d e' h => by
  cases h
  exact ⟨rfl, fun i x hx => hx⟩
theorem Kp.no {a : Type} : Kp fun _ => (R.no : R a) := fun e d e' h => by cases h
theorem Kp.set {e : Env} {i j : Nat} {x : D} {s : Option Sl} (hx : e[j]? = some (some (Sl.val x))) (h : ∀ y, e[i]? ≠ some (some (Sl.val y))) : (e.set i s)[j]? = some (some (Sl.val x)) := by
  rw [List.getElem?_set_ne]
  · exact hx
  · intro z
    subst z
    exact h x hx
theorem own_noval {e : Env} {i : Nat} {ds : List D} (h : getO e i = some ds) (y : D) : e[i]? ≠ some (some (Sl.val y)) := by
  unfold getO at h
  intro z
  rw [z] at h
  cases h
theorem own_noval' {e : Env} {i : Nat} {m : Bool} {ds : List D} (h : e[i]? = some (some (Sl.ow m ds))) (y : D) : e[i]? ≠ some (some (Sl.val y)) := by
  intro z
  rw [z] at h
  cases h
theorem getO_ow {e : Env} {i : Nat} {ds : List D} (h : getO e i = some ds) : e[i]? = some (some (Sl.ow false ds)) := by
  unfold getO at h
  split at h
  · rename_i q
    cases h
    exact q
  · cases h
theorem getM_ow {e : Env} {i : Nat} {ds : List D} (h : getM e i = some ds) : e[i]? = some (some (Sl.ow true ds)) := by
  unfold getM at h
  split at h
  · rename_i q
    cases h
    exact q
  · cases h
/-- what the slot owns is lent -/
def lendB (m : Bool) (ds : List D) (i : Nat) (f : Env → R D) (e : Env) : R D := (f (e.set i (some (Sl.val (unD m ds))))).bind fun d e1 => if (d.flat && lendOk i 0 e e1) = true then .ok d (e1.set i (some (Sl.ow m ds))) else .no
def lendF (i : Nat) (f : Env → R D) : Env → R D := fun e => match getO e i with
  | some ds => lendB false ds i f e
  | none => match getM e i with
    | some ds => lendB true ds i f e
    | none => .no
theorem lendF_i {i : Nat} {f : Env → R D} {e : Env} : lendF i f e = .no ∨ ∃ m ds, e[i]? = some (some (Sl.ow m ds)) ∧ lendF i f e = lendB m ds i f e := by
  unfold lendF
  cases k : getO e i with
  | some ds => exact .inr ⟨false, ds, getO_ow k, rfl⟩
  | none =>
    cases k' : getM e i with
    | some ds => exact .inr ⟨true, ds, getM_ow k', rfl⟩
    | none => exact .inl rfl
theorem kp_getV {i : Nat} : Kp fun e => getV e i := fun e d e' h => by
  replace h : getV e i = .ok d e' := h
  unfold getV at h
  split at h
  · cases h; exact ⟨rfl, fun j x hx => hx⟩
  · rename_i q
    cases h
    exact ⟨List.length_set, fun j x hx => Kp.set hx fun y z => by rw [q] at z; cases z⟩
  · rename_i q
    cases h
    exact ⟨List.length_set, fun j x hx => Kp.set hx fun y z => by rw [q] at z; cases z⟩
  · cases h
theorem bindT_kp {t : Tg} : ∀ {d : D} {e e' : Env}, bindT t d e = some e' → ∀ j, j ∉ t.slots → e'[j]? = e[j]? := by
  induction t with
  | nm i =>
    intro d e e' h j hj
    cases (show some (e.set i (some (Sl.val d))) = some e' from h)
    rw [List.getElem?_set_ne]
    intro z
    exact hj (by rw [z]; exact List.mem_singleton.mpr rfl)
  | tp t ih =>
    intro d e e' h j hj
    cases d with
    | tup ds => exact ih (d := .lst ds) h j hj
    | lst ds => exact ih (d := .lst ds) h j hj
    | _ => cases h
  | nil =>
    intro d e e' h j hj
    cases d with
    | lst ds => cases ds with
      | nil => cases (show some e = some e' from h); rfl
      | cons _ _ => cases h
    | _ => cases h
  | cons t ts iht ihts =>
    intro d e e' h j hj
    cases d with
    | lst ds => cases ds with
      | nil => cases h
      | cons x xs =>
        have h : ((bindT t x e).bind fun e1 => bindT ts (.lst xs) e1) = some e' := h
        have hj : j ∉ t.slots ++ ts.slots := hj
        rw [List.mem_append] at hj
        cases z : bindT t x e with
        | none => rw [z] at h; cases h
        | some e1 =>
          rw [z] at h
          rw [ihts (d := .lst xs) h j fun w => hj (.inr w), iht z j fun w => hj (.inl w)]
    | _ => cases h
theorem compL_kp {vs : List Nat} {t : Tg} {c f : Env → R D} (ht : ∀ i, i ∈ t.slots → i ∈ vs) (hc : Kp c) (hf : Kp f) : ∀ {ds : List D} {e e' : Env} {ys : List D}, compL vs t c f ds e = .ok ys e' → e'.length = e.length ∧ ∀ (i : Nat) (x : D), i ∉ vs → e[i]? = some (some (Sl.val x)) → e'[i]? = some (some (Sl.val x))
  | [], e, e', ys, h => by
    cases (show R.ok [] e = .ok ys e' from h)
    exact ⟨rfl, fun i x _ hx => hx⟩
  | d :: ds, e, e', ys, h => by
    obtain ⟨eb, b, e3, h1, h2, h3⟩ := compL_cons h
    have l1 : eb.length = e.length := by rw [bindT_len h1, wipes_len]
    obtain ⟨l2, k2⟩ := hc eb _ e3 h2
    have x1 : ∀ (i : Nat) (x : D), i ∉ vs → e[i]? = some (some (Sl.val x)) → eb[i]? = some (some (Sl.val x)) := fun i x hi hx => by
      rw [bindT_kp h1 i fun z => hi (ht i z), wipes_out hi]
      exact hx
    rcases h3 with ⟨_, y, e4, ys', h4, h5, _⟩ | ⟨_, h5⟩
    · obtain ⟨l3, k3⟩ := hf e3 y e4 h4
      obtain ⟨l4, k4⟩ := compL_kp ht hc hf h5
      exact ⟨by omega, fun i x hi hx => k4 i x hi (k3 i x (k2 i x (x1 i x hi hx)))⟩
    · obtain ⟨l4, k4⟩ := compL_kp ht hc hf h5
      exact ⟨by omega, fun i x hi hx => k4 i x hi (k2 i x (x1 i x hi hx))⟩
theorem compL2_kp {vs vs1 : List Nat} {t t1 : Tg} {c c1 f : Env → R D} {s1 : Env → R (List D)} (ht : ∀ i, i ∈ t.slots → i ∈ vs) (ht1 : ∀ i, i ∈ t1.slots → i ∈ vs1) (hv : ∀ i, i ∈ vs1 → i ∈ vs) (hc : Kp c) (hs : Kp s1) (hc1 : Kp c1) (hf : Kp f) : ∀ {ds : List D} {e e' : Env} {ys : List D}, compL2 vs t c s1 vs1 t1 c1 f ds e = .ok ys e' → e'.length = e.length ∧ ∀ (i : Nat) (x : D), i ∉ vs → e[i]? = some (some (Sl.val x)) → e'[i]? = some (some (Sl.val x))
  | [], e, e', ys, h => by
    cases (show R.ok [] e = .ok ys e' from h)
    exact ⟨rfl, fun i x _ hx => hx⟩
  | d :: ds, e, e', ys, h => by
    obtain ⟨eb, b, e3, h1, h2, h3⟩ := compL2_cons h
    have l1 : eb.length = e.length := by rw [bindT_len h1, wipes_len]
    obtain ⟨l2, k2⟩ := hc eb _ e3 h2
    have x1 : ∀ (i : Nat) (x : D), i ∉ vs → e[i]? = some (some (Sl.val x)) → eb[i]? = some (some (Sl.val x)) := fun i x hi hx => by
      rw [bindT_kp h1 i fun z => hi (ht i z), wipes_out hi]
      exact hx
    rcases h3 with ⟨_, ds1, e4, ys1, e5, ys', h4, h5, h6, _⟩ | ⟨_, h5⟩
    · obtain ⟨l3, k3⟩ := hs e3 ds1 e4 h4
      obtain ⟨l4, k4⟩ := compL_kp ht1 hc1 hf h5
      obtain ⟨l5, k5⟩ := compL2_kp ht ht1 hv hc hs hc1 hf h6
      exact ⟨by omega, fun i x hi hx => k5 i x hi (k4 i x (fun z => hi (hv i z)) (k3 i x (k2 i x (x1 i x hi hx))))⟩
    · obtain ⟨l4, k4⟩ := compL2_kp ht ht1 hv hc hs hc1 hf h5
      exact ⟨by omega, fun i x hi hx => k4 i x hi (k2 i x (x1 i x hi hx))⟩
theorem compL3_kp {vs vs1 vs2 : List Nat} {t t1 t2 : Tg} {f : Env → R D} {s1 s2 : Env → R (List D)} (ht : ∀ i, i ∈ t.slots → i ∈ vs) (ht1 : ∀ i, i ∈ t1.slots → i ∈ vs1) (ht2 : ∀ i, i ∈ t2.slots → i ∈ vs2) (hv : ∀ i, i ∈ vs1 → i ∈ vs) (hv2 : ∀ i, i ∈ vs2 → i ∈ vs1) {c : Env → R D} (hc : Kp c) (hs : Kp s1) (hs2 : Kp s2) (hf : Kp f) : ∀ {ds : List D} {e e' : Env} {ys : List D}, compL3 vs t s1 vs1 t1 s2 vs2 t2 c f ds e = .ok ys e' → e'.length = e.length ∧ ∀ (i : Nat) (x : D), i ∉ vs → e[i]? = some (some (Sl.val x)) → e'[i]? = some (some (Sl.val x))
  | [], e, e', ys, h => by
    cases (show R.ok [] e = .ok ys e' from h)
    exact ⟨rfl, fun i x _ hx => hx⟩
  | d :: ds, e, e', ys, h => by
    obtain ⟨eb, ds1, e4, ys1, e5, ys', h1, h4, h5, h6, _⟩ := compL3_cons h
    have l1 : eb.length = e.length := by rw [bindT_len h1, wipes_len]
    have x1 : ∀ (i : Nat) (x : D), i ∉ vs → e[i]? = some (some (Sl.val x)) → eb[i]? = some (some (Sl.val x)) := fun i x hi hx => by
      rw [bindT_kp h1 i fun z => hi (ht i z), wipes_out hi]
      exact hx
    obtain ⟨l3, k3⟩ := hs eb ds1 e4 h4
    obtain ⟨l4, k4⟩ := compL2_kp ht1 ht2 hv2 (show Kp fun e => R.ok (D.bl true) e from Kp.ok) hs2 hc hf h5
    obtain ⟨l5, k5⟩ := compL3_kp ht ht1 ht2 hv hv2 hc hs hs2 hf h6
    exact ⟨by omega, fun i x hi hx => k5 i x hi (k4 i x (fun z => hi (hv i z)) (k3 i x (x1 i x hi hx)))⟩
theorem Kp.way {a : Type} {x : D} {f g : Env → R a} (hf : Kp f) (hg : Kp g) : Kp fun e => R.way x (f e) (g e) := fun e d e' h => by
  replace h : R.way x (f e) (g e) = .ok d e' := h
  unfold R.way at h
  split at h
  · exact hf e d e' h
  · exact hg e d e' h
  · cases h
theorem Kp.ite {a : Type} {b : Bool} {f g : Env → R a} (hf : Kp f) (hg : Kp g) : Kp fun e => if b = true then f e else g e := by
  cases b with
  | true => exact hf
  | false => exact hg
theorem s2 {a b : Bool} (h : (a && b) = true) : a = true ∧ b = true := Bool.and_eq_true_iff.mp h
theorem den_kp (C : Ctx) (a : Ex) : slB a = true → Kp (den C a) ∧ Kp (denL C a) := by
  induction a with
  | lit d => exact fun _ => ⟨Kp.ok, Kp.no⟩
  | var i => exact fun _ => ⟨kp_getV, Kp.no⟩
  | gval g => exact fun _ => ⟨Kp.ok, Kp.no⟩
  | emp => exact fun _ => ⟨Kp.ok, Kp.no⟩
  | tup a ih =>
    refine fun h => ⟨Kp.bind (ih h).2 fun ds => ?_, Kp.no⟩
    by_cases hl : ds.length ≤ lim
    · simp only [if_pos hl]; exact Kp.ok
    · simp only [if_neg hl]; exact Kp.no
  | lst a ih =>
    refine fun h => ⟨Kp.bind (ih h).2 fun ds => ?_, Kp.no⟩
    by_cases hl : ds.length ≤ lim
    · simp only [if_pos hl]; exact Kp.ok
    · simp only [if_neg hl]; exact Kp.no
  | bin o a b iha ihb =>
    intro h
    obtain ⟨h1, h2⟩ := s2 h
    exact ⟨Kp.bind (iha h1).1 fun x => Kp.bind (ihb h2).1 fun y => Kp.of, Kp.no⟩
  | neg a ih =>
    refine fun h => ⟨Kp.bind (ih h).1 fun x => ?_, Kp.no⟩
    cases x <;> first | exact Kp.ok | exact Kp.no
  | cmp o a b iha ihb =>
    intro h
    obtain ⟨h1, h2⟩ := s2 h
    exact ⟨Kp.bind (iha h1).1 fun x => Kp.bind (ihb h2).1 fun y => Kp.of, Kp.no⟩
  | cmp2 o q a b c iha ihb ihc =>
    intro h
    obtain ⟨h1, h⟩ := s2 h
    obtain ⟨h2, h3⟩ := s2 h
    refine ⟨Kp.bind (iha h1).1 fun x => Kp.bind (ihb h2).1 fun y => ?_, Kp.no⟩
    cases cmpop o x y with
    | none => exact Kp.no
    | some b => cases b with
      | true => exact Kp.bind (ihc h3).1 fun z => Kp.of
      | false => exact Kp.ok
  | and a b iha ihb =>
    intro h
    obtain ⟨h1, h2⟩ := s2 h
    refine ⟨Kp.bind (iha h1).1 fun x => ?_, Kp.no⟩
    cases x with
    | bl v => cases v with
      | true => exact (ihb h2).1
      | false => exact Kp.ok
    | _ => exact Kp.no
  | or a b iha ihb =>
    intro h
    obtain ⟨h1, h2⟩ := s2 h
    refine ⟨Kp.bind (iha h1).1 fun x => ?_, Kp.no⟩
    cases x with
    | bl v => cases v with
      | true => exact Kp.ok
      | false => exact (ihb h2).1
    | int i =>
      intro e d e' q
      by_cases hi : i = 0
      · exact (ihb h2).1 e d e' (by rw [← q]; exact (if_pos hi).symm)
      · exact Kp.ok e d e' (by rw [← q]; exact (if_neg hi).symm)
    | _ => exact Kp.no
  | not a ih => exact fun h => ⟨Kp.bind (ih h).1 fun x => Kp.way Kp.ok Kp.ok, Kp.no⟩
  | ite c a b ihc iha ihb =>
    intro h
    obtain ⟨h1, h⟩ := s2 h
    obtain ⟨h2, h3⟩ := s2 h
    exact ⟨Kp.bind (ihc h1).1 fun x => Kp.way (iha h2).1 (ihb h3).1, Kp.no⟩
  | call f io a ih =>
    refine fun h => ⟨fun e d e' q => ?_, Kp.no⟩
    replace q : (match ioOk io e with
      | true => (denL C a e).bind fun ds e => match argsOf io ds e with
        | some xs => afterCall io (C.call f xs) e
        | none => .no
      | false => .no) = .ok d e' := q
    cases z : ioOk io e with
    | false => rw [z] at q; cases q
    | true =>
      rw [z] at q
      replace q : ((denL C a e).bind fun ds e => match argsOf io ds e with
        | some xs => afterCall io (C.call f xs) e
        | none => .no) = .ok d e' := q
      cases z1 : denL C a e with
      | ex _ _ => rw [z1] at q; cases q
      | no => rw [z1] at q; cases q
      | ok ds e1 =>
        rw [z1] at q
        obtain ⟨l1, k1⟩ := (ih h).2 e ds e1 z1
        replace q : (match argsOf io ds e1 with
          | some xs => afterCall io (C.call f xs) e1
          | none => .no) = .ok d e' := q
        cases z2 : argsOf io ds e1 with
        | none => rw [z2] at q; cases q
        | some xs =>
          rw [z2] at q
          replace q : afterCall io (C.call f xs) e1 = .ok d e' := q
          cases z3 : C.call f xs with
          | ok d2 cs =>
            rw [z3] at q
            cases (show R.ok d2 (putIo io cs e1) = .ok d e' from q)
            cases io with
            | none => exact ⟨l1, k1⟩
            | some k =>
              have : ∃ cs, getO e1 k = some cs := by
                replace z2 : (getO e1 k).map (fun cs => Sl.own cs :: ds.map Sl.val) = some xs := z2
                cases z4 : getO e1 k with
                | none => rw [z4] at z2; cases z2
                | some cs => exact ⟨cs, rfl⟩
              obtain ⟨cs0, z5⟩ := this
              exact ⟨List.length_set.trans l1, fun i x hx => Kp.set (k1 i x hx) (own_noval z5)⟩
          | ex _ => rw [z3] at q; cases io <;> cases q
          | no => rw [z3] at q; cases q
  | ix a b iha ihb =>
    intro h
    obtain ⟨h1, h2⟩ := s2 h
    exact ⟨Kp.bind (iha h1).1 fun x => Kp.bind (ihb h2).1 fun y => Kp.of, Kp.no⟩
  | oix i b ih =>
    refine fun h => ⟨fun e d e' q => ?_, Kp.no⟩
    replace q : (match ioOk (some i) e with
      | true => (den C b e).bind fun y e => match getO e i with
        | some ds => R.of (ixop (.lst ds) y) e
        | none => .no
      | false => .no) = .ok d e' := q
    cases z : ioOk (some i) e with
    | false => rw [z] at q; cases q
    | true =>
      rw [z] at q
      refine (Kp.bind (ih h).1 (g := fun y e => match getO e i with
        | some ds => R.of (ixop (.lst ds) y) e
        | none => .no) fun y e d e' q => ?_) e d e' q
      cases z1 : getO e i with
      | none => simp only [z1] at q; cases q
      | some ds => simp only [z1] at q; exact Kp.of e d e' q
  | sl a l u iha ihl ihu =>
    intro h
    obtain ⟨h1, h⟩ := s2 h
    obtain ⟨h2, h3⟩ := s2 h
    exact ⟨Kp.bind (iha h1).1 fun x => Kp.bind (Kp.bind (ihl h2).1 fun y => Kp.of) fun y => Kp.bind (Kp.bind (ihu h3).1 fun z => Kp.of) fun z => Kp.of, Kp.no⟩
  | prim p a ih => exact fun h => ⟨Kp.bind (ih h).2 fun ds => Kp.of, Kp.no⟩
  | isi p a ih => exact fun h => ⟨Kp.bind (ih h).1 fun x => Kp.of, Kp.no⟩
  | rev a ih => exact fun h => ⟨Kp.bind (ih h).1 fun x => Kp.of, Kp.no⟩
  | rev2 a ih => exact fun h => ⟨Kp.bind (ih h).1 fun x => Kp.of, Kp.no⟩
  | frm k a ih => exact fun h => ⟨Kp.bind (ih h).1 fun x => Kp.of, Kp.no⟩
  | prim2 p a b iha ihb =>
    intro h
    obtain ⟨h1, h2⟩ := s2 h
    exact ⟨Kp.bind (iha h1).1 fun x => Kp.bind (ihb h2).1 fun y => Kp.of, Kp.no⟩
  | rank i a ih =>
    refine fun h => ⟨Kp.bind (ih h).1 fun x e d e' q => ?_, Kp.no⟩
    split at q
    · exact Kp.of e d e' q
    · cases q
  | olen i =>
    refine fun h => ⟨fun e d e' q => ?_, Kp.no⟩
    replace q : (match getO e i with
      | some ds => R.of (prim .len [.lst ds]) e
      | none => .no) = .ok d e' := q
    cases z : getO e i with
    | none => rw [z] at q; cases q
    | some ds => rw [z] at q; exact Kp.of e d e' q
  | lc vs t src cond elt ihs ihc ihe =>
    intro h
    obtain ⟨h0, h⟩ := s2 h
    obtain ⟨h1, h⟩ := s2 h
    obtain ⟨h2, h3⟩ := s2 h
    refine ⟨Kp.bind (ihs h1).2 fun ds e d e' q => ?_, Kp.no⟩
    replace q : (match vs.all fun v => bare e v with
      | true => match compL vs t (den C cond) (den C elt) ds e with
        | .ok ys e1 => if ys.length ≤ lim then R.ok (D.lst ys) (backs e e1 vs) else .no
        | _ => .no
      | false => .no) = .ok d e' := q
    split at q
    · split at q
      · rename_i ys e1 z
        obtain ⟨l1, k1⟩ := compL_kp (fun i z => List.contains_iff_mem.mp (List.all_eq_true.mp h0 i z)) (ihc h2).1 (ihe h3).1 z
        split at q
        · cases q
          refine ⟨by rw [backs_len]; exact l1, fun i x hx => ?_⟩
          by_cases hi : i ∈ vs
          · rw [backs_in l1 hi]
            exact hx
          · rw [backs_out hi]
            exact k1 i x hi hx
        · cases q
      · cases q
    · cases q
  | lc2 vs t src cond vs1 t1 src1 cond1 elt ihs ihc ihs1 ihc1 ihe =>
    intro h
    obtain ⟨h0, h⟩ := s2 h
    obtain ⟨k0, h⟩ := s2 h
    obtain ⟨j0, h⟩ := s2 h
    obtain ⟨h1, h⟩ := s2 h
    obtain ⟨h2, h⟩ := s2 h
    obtain ⟨h3, h⟩ := s2 h
    obtain ⟨h4, h5⟩ := s2 h
    refine ⟨Kp.bind (ihs h1).2 fun ds e d e' q => ?_, Kp.no⟩
    replace q : (match vs.all fun v => bare e v with
      | true => match compL2 vs t (den C cond) (denL C src1) vs1 t1 (den C cond1) (den C elt) ds e with
        | .ok ys e1 => if ys.length ≤ lim then R.ok (D.lst ys) (backs e e1 vs) else .no
        | _ => .no
      | false => .no) = .ok d e' := q
    split at q
    · split at q
      · rename_i ys e1 z
        obtain ⟨l1, k1⟩ := compL2_kp (fun i z => List.contains_iff_mem.mp (List.all_eq_true.mp h0 i z)) (fun i z => List.contains_iff_mem.mp (List.all_eq_true.mp k0 i z)) (fun i z => List.contains_iff_mem.mp (List.all_eq_true.mp j0 i z)) (ihc h2).1 (ihs1 h3).2 (ihc1 h4).1 (ihe h5).1 z
        split at q
        · cases q
          refine ⟨by rw [backs_len]; exact l1, fun i x hx => ?_⟩
          by_cases hi : i ∈ vs
          · rw [backs_in l1 hi]
            exact hx
          · rw [backs_out hi]
            exact k1 i x hi hx
        · cases q
      · cases q
    · cases q
  | lc3 vs t src vs1 t1 src1 vs2 t2 src2 cond elt ihs ihs1 ihs2 ihc ihe =>
    intro h
    obtain ⟨h0, h⟩ := s2 h
    obtain ⟨k0, h⟩ := s2 h
    obtain ⟨l0, h⟩ := s2 h
    obtain ⟨j0, h⟩ := s2 h
    obtain ⟨i0, h⟩ := s2 h
    obtain ⟨h1, h⟩ := s2 h
    obtain ⟨h2, h⟩ := s2 h
    obtain ⟨h3, h⟩ := s2 h
    obtain ⟨h4, h5⟩ := s2 h
    refine ⟨Kp.bind (ihs h1).2 fun ds e d e' q => ?_, Kp.no⟩
    replace q : (match vs.all fun v => bare e v with
      | true => match compL3 vs t (denL C src1) vs1 t1 (denL C src2) vs2 t2 (den C cond) (den C elt) ds e with
        | .ok ys e1 => if ys.length ≤ lim then R.ok (D.lst ys) (backs e e1 vs) else .no
        | _ => .no
      | false => .no) = .ok d e' := q
    split at q
    · split at q
      · rename_i ys e1 z
        have cm : ∀ {l m : List Nat}, (l.all fun i => m.contains i) = true → ∀ i, i ∈ l → i ∈ m := fun h i z => List.contains_iff_mem.mp (List.all_eq_true.mp h i z)
        obtain ⟨l1, k1⟩ := compL3_kp (cm h0) (cm k0) (cm l0) (cm j0) (cm i0) (ihc h4).1 (ihs1 h2).2 (ihs2 h3).2 (ihe h5).1 z
        split at q
        · cases q
          refine ⟨by rw [backs_len]; exact l1, fun i x hx => ?_⟩
          by_cases hi : i ∈ vs
          · rw [backs_in l1 hi]
            exact hx
          · rw [backs_out hi]
            exact k1 i x hi hx
        · cases q
      · cases q
    · cases q
  | dcomp vs t src cond k v => exact fun h => by cases h
  | dl0 => exact fun _ => ⟨Kp.ok, Kp.no⟩
  | dl1 a b iha ihb =>
    intro h
    obtain ⟨h1, h2⟩ := s2 h
    refine ⟨Kp.bind (iha h1).1 fun x => Kp.bind (ihb h2).1 fun y e d e' q => ?_, Kp.no⟩
    split at q
    · exact Kp.ok e d e' q
    · cases q
  | dget a b c iha ihb ihc =>
    intro h
    obtain ⟨h1, h⟩ := s2 h
    obtain ⟨h2, h3⟩ := s2 h
    refine ⟨Kp.bind (iha h1).1 fun x => Kp.bind (ihb h2).1 fun y => Kp.bind (ihc h3).1 fun z => ?_, Kp.no⟩
    cases x with
    | dic ds =>
      cases hf : fitD y ds with
      | true => simp only [hf, if_true]; exact Kp.ok
      | false => simp only [hf]; exact Kp.no
    | _ => exact Kp.no
  | cmp3 o p q a b c d iha ihb ihc ihd =>
    intro h
    obtain ⟨h1, h⟩ := s2 h
    obtain ⟨h2, h⟩ := s2 h
    obtain ⟨h3, h4⟩ := s2 h
    refine ⟨Kp.bind (iha h1).1 fun x => Kp.bind (ihb h2).1 fun y => ?_, Kp.no⟩
    cases cmpop o x y with
    | none => exact Kp.no
    | some b => cases b with
      | true =>
        refine Kp.bind (ihc h3).1 fun z => ?_
        cases cmpop p y z with
        | none => exact Kp.no
        | some b => cases b with
          | true => exact Kp.bind (ihd h4).1 fun z => Kp.of
          | false => exact Kp.ok
      | false => exact Kp.ok
  | max3 a b c iha ihb ihc =>
    intro h
    obtain ⟨h1, h⟩ := s2 h
    obtain ⟨h2, h3⟩ := s2 h
    refine ⟨Kp.bind (iha h1).1 fun x => Kp.bind (ihb h2).1 fun y => Kp.bind (ihc h3).1 fun z => ?_, Kp.no⟩
    cases x <;> first | exact Kp.no | (cases y <;> first | exact Kp.no | (cases z <;> first | exact Kp.no | exact Kp.ok))
  | rng3 a b c iha ihb ihc =>
    intro h
    obtain ⟨h1, h⟩ := s2 h
    obtain ⟨h2, h3⟩ := s2 h
    refine ⟨Kp.no, Kp.bind (iha h1).1 fun x => Kp.bind (ihb h2).1 fun y => Kp.bind (ihc h3).1 fun z => ?_⟩
    cases x <;> first | exact Kp.no | (cases y <;> first | exact Kp.no | (cases z <;> first | exact Kp.no | skip))
    rename_i i j k
    intro e d e' q
    simp only at q
    split at q
    · exact Kp.ok e d e' q
    · cases q
  | lend i a ih =>
    refine fun h => ⟨fun e d e' q => ?_, Kp.no⟩
    replace q : lendF i (den C a) e = .ok d e' := q
    rcases lendF_i (i := i) (f := den C a) (e := e) with z | ⟨m, ds, ho, z⟩
    · rw [z] at q; cases q
    · rw [z] at q
      unfold lendB at q
      cases z1 : den C a (e.set i (some (Sl.val (unD m ds)))) with
      | ex _ _ => rw [z1] at q; cases q
      | no => rw [z1] at q; cases q
      | ok y e1 =>
        rw [z1] at q
        obtain ⟨l1, k1⟩ := (ih h).1 _ y e1 z1
        rw [List.length_set] at l1
        replace q : (if (y.flat && lendOk i 0 e e1) = true then R.ok y (e1.set i (some (Sl.ow m ds))) else .no) = .ok d e' := q
        split at q
        · cases q
          refine ⟨List.length_set.trans l1, fun j x hx => ?_⟩
          have hne : i ≠ j := fun w => own_noval' ho x (by rw [w]; exact hx)
          rw [List.getElem?_set_ne hne]
          exact k1 j x (by rw [List.getElem?_set_ne hne]; exact hx)
        · cases q
  | skeys a ih =>
    refine fun h => ⟨Kp.bind (ih h).1 fun x => ?_, Kp.no⟩
    cases x with
    | dic ds =>
      simp only
      unfold R.of
      cases sortK (keysD ds) with
      | none => exact Kp.no
      | some d => exact Kp.ok
    | _ => exact Kp.no
  | trng2 a b iha ihb =>
    refine fun h => ?_
    obtain ⟨h1, h2⟩ := s2 h
    exact ⟨Kp.bind (iha h1).1 fun x => Kp.bind (ihb h2).1 fun y => Kp.of, Kp.no⟩
  | idx a b iha ihb =>
    refine fun h => ?_
    obtain ⟨h1, h2⟩ := s2 h
    refine ⟨Kp.bind (iha h1).1 fun x => ?_, Kp.no⟩
    cases x with
    | lst ds => exact Kp.bind (ihb h2).1 fun y => Kp.of
    | _ => exact Kp.no
  | lkeys a ih =>
    refine fun h => ⟨Kp.bind (ih h).1 fun x => ?_, Kp.no⟩
    cases x with
    | dic ds =>
      by_cases hl : (keysD ds).length ≤ lim
      · simp only [if_pos hl]; exact Kp.ok
      · simp only [if_neg hl]; exact Kp.no
    | _ => exact Kp.no
  | keys a ih =>
    refine fun h => ⟨Kp.no, Kp.bind (ih h).1 fun x => ?_⟩
    cases x <;> first | exact Kp.ok | exact Kp.no
  | vals a ih =>
    refine fun h => ⟨Kp.no, Kp.bind (ih h).1 fun x => ?_⟩
    cases x <;> first | exact Kp.ok | exact Kp.no
  | pairs a ih =>
    refine fun h => ⟨Kp.no, Kp.bind (ih h).1 fun x => ?_⟩
    cases x <;> first | exact Kp.ok | exact Kp.no
  | nil => exact fun _ => ⟨Kp.no, Kp.ok⟩
  | cons a b iha ihb =>
    intro h
    obtain ⟨h1, h2⟩ := s2 h
    exact ⟨Kp.no, Kp.bind (iha h1).1 fun x => Kp.bind (ihb h2).2 fun xs => Kp.ok⟩
  | items a ih =>
    refine fun h => ⟨Kp.no, Kp.bind (ih h).1 fun x => ?_⟩
    cases x <;> first | exact Kp.ok | exact Kp.no
  | rng1 a ih =>
    refine fun h => ⟨Kp.no, Kp.bind (ih h).1 fun x => ?_⟩
    cases x with
    | int i =>
      by_cases hr : rangeOk 0 i = true
      · simp only [if_pos hr]; exact Kp.ok
      · simp only [if_neg hr]; exact Kp.no
    | _ => exact Kp.no
  | zip a b iha ihb =>
    intro h
    obtain ⟨h1, h2⟩ := s2 h
    refine ⟨Kp.no, Kp.bind (iha h1).1 fun x => Kp.bind (ihb h2).1 fun y => ?_⟩
    cases x <;> cases y <;> first | exact Kp.ok | exact Kp.no
  | rng2 a b iha ihb =>
    intro h
    obtain ⟨h1, h2⟩ := s2 h
    refine ⟨Kp.no, Kp.bind (iha h1).1 fun x => Kp.bind (ihb h2).1 fun y => ?_⟩
    cases x with
    | int i =>
      cases y with
      | int j =>
        by_cases hr : rangeOk i j = true
        · simp only [if_pos hr]; exact Kp.ok
        · simp only [if_neg hr]; exact Kp.no
      | _ => exact Kp.no
    | _ => exact Kp.no
end Ev
set_option Elab.async false
set_option linter.all false
set_option maxRecDepth 100000
set_option maxHeartbeats 4000000
set_option autoImplicit false
/-! Ev9c: a slot's own list lent to an expression. -/
namespace Ev
open PySem PySem.Spec PyProof.Rows L2
variable [TabT]
section
variable {K : PySem.W.Frag} {O O' : Addr → Prop} {H : Hp}
mutual
theorem Rp.flat : ∀ {d : D} {v : V}, D.flat d = true → Rp K O H d v → Rp K O' H d v
  | .non, v, _, h => by unfold Rp at h ⊢; exact h
  | .bl b, v, _, h => by unfold Rp at h ⊢; exact h
  | .int i, v, _, h => by unfold Rp at h ⊢; exact h
  | .str x, v, _, h => by unfold Rp at h ⊢; exact h
  | .tup ds, v, f, h => by
    unfold Rp at h ⊢
    unfold D.flat at f
    obtain ⟨a, vs, e, s, r⟩ := h
    exact ⟨a, vs, e, s, Rps.flat f r⟩
  | .lst ds, v, f, h => by
    unfold D.flat at f
    cases f
  | .fz ds, v, f, h => by
    unfold Rp at h ⊢
    unfold D.flat at f
    obtain ⟨a, vs, e, s, r⟩ := h
    exact ⟨a, vs, e, s.imp id (Or.imp id fun z => z.1.elim), Rps.flat f r⟩
  | .emp, v, f, h => by unfold Rp at h ⊢; exact h
  | .dic ds, v, f, h => by
    unfold D.flat at f
    cases f
theorem Rps.flat : ∀ {ds : List D} {vs : List V}, D.flats ds = true → Rps K O H ds vs → Rps K O' H ds vs
  | [], vs, _, h => by unfold Rps at h ⊢; exact h
  | d :: ds, vs, f, h => by
    unfold Rps at h ⊢
    unfold D.flats at f
    obtain ⟨f1, f2⟩ := Bool.and_eq_true_iff.mp f
    obtain ⟨v, r, e, h1, h2⟩ := h
    exact ⟨v, r, e, Rp.flat f1 h1, Rps.flat f2 h2⟩
end
end
theorem Rpo.flat {K : PySem.W.Frag} {O O' : Addr → Prop} {H : Hp} {m : Bool} {ds : List D} {vs : List V} (f : D.flats ds = true) (h : Rpo K O H m ds vs) : Rpo K O' H m ds vs := by
  unfold Rpo at h ⊢
  cases m with
  | true => exact ⟨h.1, Rps.flat f h.2⟩
  | false => exact Rps.flat f h
theorem lendOk_at {i : Nat} : ∀ {k : Nat} {e e' : Env} {j : Nat} {x y : Option Sl}, lendOk i k e e' = true → e[j]? = some x → e'[j]? = some y → k + j ≠ i → isVal x = true ∨ slFlat y = true
  | k, [], e', j, x, y, h, h1, h2, hj => by simp at h1
  | k, a :: e, [], j, x, y, h, h1, h2, hj => by simp at h2
  | k, a :: e, b :: e', 0, x, y, h, h1, h2, hj => by
    unfold lendOk at h
    simp at h1 h2
    subst h1 h2
    obtain ⟨h, _⟩ := Bool.and_eq_true_iff.mp h
    have hk : (k == i) = false := by simpa using hj
    rw [hk, Bool.false_or, Bool.or_eq_true] at h
    exact h
  | k, a :: e, b :: e', j + 1, x, y, h, h1, h2, hj => by
    unfold lendOk at h
    obtain ⟨_, h⟩ := Bool.and_eq_true_iff.mp h
    exact lendOk_at h (by simpa using h1) (by simpa using h2) (by omega)
theorem isVal_i {x : Option Sl} (h : isVal x = true) : ∃ d, x = some (Sl.val d) := by
  unfold isVal at h
  split at h
  · exact ⟨_, rfl⟩
  · cases h
section
variable {K : PySem.W.Frag} {B : Addr → Prop} {e e' : Env} {σ : L2.St} {H H' : Hp}
/-- the list is the slot's own again -/
theorem RSt.lent (rs : RSt K B H e σ) {i : Nat} {m : Bool} {ds : List D} (ho : e[i]? = some (some (Sl.ow m ds))) (rs' : RSt K B H' e' σ) (st' : Stp H (e.set i (some (Sl.val (unD m ds)))) σ H' e' σ) (hl : e'.length = e.length)
    (hv : ∀ (j : Nat) (x : D), (e.set i (some (Sl.val (unD m ds))))[j]? = some (some (Sl.val x)) → e'[j]? = some (some (Sl.val x))) (hok : lendOk i 0 e e' = true) :
    RSt K B H' (e'.set i (some (Sl.ow m ds))) σ ∧ Stp H e σ H' (e'.set i (some (Sl.ow m ds))) σ := by
  have hi : i < e.length := (List.getElem?_eq_some_iff.mp ho).1
  obtain ⟨a, vs, a1, a2, a3, a4⟩ := rs.own i ds ho
  have vi : e'[i]? = some (some (Sl.val (unD m ds))) := hv i _ (List.getElem?_set_self hi)
  obtain ⟨va, b1, b2⟩ := rs'.val i _ vi
  rw [a1] at b1
  cases b1
  have c2 : ¬ Of B e' σ a := by
    cases m with
    | false =>
      obtain ⟨a', _, q, n, _⟩ : ∃ a' vs', V.ref a = .ref a' ∧ ¬ Of B e' σ a' ∧ H' a' = some (.lst vs') ∧ Rps K (Of B e' σ) H' ds vs' := by
        unfold unD Rp at b2
        exact b2
      cases q
      exact n
    | true =>
      unfold unD Rp at b2
      obtain ⟨a', _, q, n, _⟩ := b2
      cases q
      exact n
  have own1 : ∀ b, OwnAt (e.set i (some (Sl.val (unD m ds)))) σ b → OwnAt e σ b := fun b ⟨j, n, es, q1, q2⟩ => by
    obtain ⟨_, q⟩ := own_set_val q1
    exact ⟨j, n, es, q, q2⟩
  have own2 : ∀ b, OwnAt (e'.set i (some (Sl.ow m ds))) σ b → b = a ∨ OwnAt e' σ b := fun b ⟨j, n, es, q1, q2⟩ => by
    rcases own_set_own q1 with ⟨rfl, _, _⟩ | ⟨_, q⟩
    · rw [a1] at q2; cases q2; exact .inl rfl
    · exact .inr ⟨j, n, es, q, q2⟩
  have ha : OwnAt e σ a := ⟨i, m, ds, ho, a1⟩
  have st : Stp H e σ H' (e'.set i (some (Sl.ow m ds))) σ := by
    refine ⟨fun b o h tt n => st'.fr b o h tt fun z => n (own1 b z), st'.al, fun b h => ?_⟩
    rcases own2 b h with z | z
    · exact .inl (by rw [z]; exact ha)
    · exact (st'.sub b z).imp (own1 b) id
  have same : LOs H' a m ds vs := a3.elim fun ob a3 => ⟨ob, st'.fr a _ a3 .LO fun z => by
    obtain ⟨j, n, es, q1, q2⟩ := z
    obtain ⟨hj, q⟩ := own_set_val q1
    exact hj (rs.inj j i es ds a q ho q2 a1)⟩
  have old : ∀ {j : Nat} {x : Option Sl}, e'[j]? = some x → ∃ y, e[j]? = some y := fun {j x} h => by
    have := (List.getElem?_eq_some_iff.mp h).1
    exact ⟨e[j]'(by omega), List.getElem?_eq_getElem (by omega)⟩
  have fl : ∀ {j : Nat} {x : Sl}, j ≠ i → e'[j]? = some (some x) → (∃ d, e[j]? = some (some (Sl.val d)) ∧ x = .val d) ∨ slFlat (some x) = true := fun {j x} hj h => by
    obtain ⟨y, hy⟩ := old h
    rcases lendOk_at hok hy h (by omega) with q | q
    · obtain ⟨d, rfl⟩ := isVal_i q
      have := hv j d (by rw [List.getElem?_set_ne (Ne.symm hj)]; exact hy)
      rw [h] at this
      cases this
      exact .inl ⟨d, hy, rfl⟩
    · exact .inr q
  refine ⟨⟨by rw [List.length_set, hl]; exact rs.len, fun j d h => ?_, fun j _ es h => ?_, fun j k _ _ es fs b q1 q2 q3 q4 => ?_, rs'.bnd, rs'.tb⟩, st⟩
  · have hj : j ≠ i := fun z => by
      rw [z, List.getElem?_set_self (by omega)] at h
      cases h
    rw [List.getElem?_set_ne (Ne.symm hj)] at h
    rcases fl hj h with ⟨d', h1, h2⟩ | h1
    · cases h2
      obtain ⟨v, w1, w2⟩ := rs.val j d h1
      exact ⟨v, w1, rs.keep st w2⟩
    · obtain ⟨v, w1, w2⟩ := rs'.val j d h
      exact ⟨v, w1, Rp.flat h1 w2⟩
  · rcases own_set_own h with ⟨rfl, rfl, rfl, _⟩ | ⟨hj, q⟩
    · exact ⟨a, vs, a1, a2, same, rs.keepo st a4⟩
    · obtain ⟨b, us, w1, w2, w3, w4⟩ := rs'.own j es q
      rcases fl hj q with ⟨d', _, h2⟩ | h1
      · cases h2
      · exact ⟨b, us, w1, w2, w3, Rpo.flat h1 w4⟩
  · have no : ∀ {j : Nat} {n : Bool} {es : List D}, j ≠ i → e'[j]? = some (some (Sl.ow n es)) → σ[j]? ≠ some (some (V.ref a)) := fun {j n es} _ q z => c2 (.inr ⟨j, n, es, q, z⟩)
    rcases own_set_own q1 with ⟨h1, _, _⟩ | ⟨h1, q1'⟩
    · rcases own_set_own q2 with ⟨h2, _, _⟩ | ⟨h2, q2'⟩
      · rw [h1, h2]
      · rw [h1, a1] at q3
        cases q3
        exact absurd q4 (no h2 q2')
    · rcases own_set_own q2 with ⟨h2, _, _⟩ | ⟨h2, q2'⟩
      · rw [h2, a1] at q4
        cases q4
        exact absurd q3 (no h1 q1')
      · exact rs'.inj j k _ _ b q1' q2' q3 q4
end
section
variable {RX : RXT} {Γ : Gam} {C : Ctx} {gv : Nat → V} {K : PySem.W.Frag} {W : WX}
theorem se_lend {i : Nat} {ex : PySem.Expr} {f : Env → R D} (hk : Kp f) (h : SE RX Γ C gv K W ex f) : SE RX Γ C gv K W ex (lendF i f) := by
  obtain ⟨t, p, q⟩ := h
  refine ⟨t, p, fun B e σ H Q rs h => ?_⟩
  rcases lendF_i (i := i) (f := f) (e := e) with z | ⟨m, ds, ho, z⟩
  · rw [z] at h; exact h.elim
  · rw [z] at h
    unfold lendB at h
    obtain ⟨rs1, st1, _⟩ := rs.freeze ho
    refine q B _ σ H Q rs1 ?_
    cases z : f (e.set i (some (Sl.val (unD m ds)))) with
    | no => rw [z] at h; exact h.elim
    | ex x e1 =>
      rw [z] at h
      exact fun c dd H' rs' st' rx => h c dd H' rs' (st1.trans st') rx
    | ok d e1 =>
      rw [z] at h
      replace h : PostE RX K W B e σ H (if (d.flat && lendOk i 0 e e1) = true then .ok d (e1.set i (some (Sl.ow m ds))) else .no) Q := h
      split at h
      · rename_i hc
        obtain ⟨hf, hok⟩ := and2 hc
        obtain ⟨l1, k1⟩ := hk _ d e1 z
        rw [List.length_set] at l1
        intro y H' rs' st' rp
        obtain ⟨r1, r2⟩ := rs.lent ho rs' st' l1 k1 hok
        exact h y H' r1 r2 (Rp.flat hf rp)
      · exact h.elim
theorem st_lend {i : Nat} {ex : PySem.Expr} {f : Env → R D} (hk : Kp f) (h : ST RX Γ C gv K W ex f) : ST RX Γ C gv K W ex (lendF i f) := by
  obtain ⟨t, p, q⟩ := h
  refine ⟨t, p, fun B e σ H Q rs h => ?_⟩
  unfold tst at h
  rcases lendF_i (i := i) (f := f) (e := e) with z | ⟨m, ds, ho, z⟩
  · rw [z] at h; exact h.elim
  · rw [z] at h
    unfold lendB at h
    obtain ⟨rs1, st1, _⟩ := rs.freeze ho
    refine q B _ σ H Q rs1 ?_
    unfold tst
    cases z : f (e.set i (some (Sl.val (unD m ds)))) with
    | no => rw [z] at h; exact h.elim
    | ex x e1 =>
      rw [z] at h
      exact fun c dd H' rs' st' rx => h c dd H' rs' (st1.trans st') rx
    | ok d e1 =>
      rw [z] at h
      replace h : Post RX K W B e σ H eqB ((if (d.flat && lendOk i 0 e e1) = true then R.ok d (e1.set i (some (Sl.ow m ds))) else .no).bind fun d e => R.of d.tr e) Q := h
      show Post RX K W B (e.set i (some (Sl.val (unD m ds)))) σ H eqB (R.of d.tr e1) Q
      split at h
      · rename_i hc
        obtain ⟨hf, hok⟩ := and2 hc
        obtain ⟨l1, k1⟩ := hk _ d e1 z
        rw [List.length_set] at l1
        replace h : Post RX K W B e σ H eqB (R.of d.tr (e1.set i (some (Sl.ow m ds)))) Q := h
        cases zt : d.tr with
        | none => rw [zt] at h; exact h.elim
        | some b =>
          rw [zt] at h
          intro y H' rs' st' rp
          obtain ⟨r1, r2⟩ := rs.lent ho rs' st' l1 k1 hok
          exact h y H' r1 r2 rp
      · exact h.elim
end
end Ev
set_option Elab.async false
set_option linter.all false
set_option maxRecDepth 100000
set_option maxHeartbeats 4000000
set_option autoImplicit false
/-! Ev4m: a dict's keys and values walked; range with a step; chains of four; a dict written out. -/
namespace Ev
open PySem PySem.Spec PyProof.Rows L2
/-! ### walks -/
theorem paired_get {α β : Type} {R : α → β → Prop} : ∀ {as : List α} {bs : List β} {i : Nat} {b : β}, Paired R as bs → bs[i]? = some b → ∃ a, as[i]? = some a ∧ R a b
  | _, _, i, b, .nil, h => by simp at h
  | _, _, 0, b, .cons h t, q => by
    simp at q
    subst q
    exact ⟨_, rfl, h⟩
  | _, _, i + 1, b, .cons h t, q => by
    obtain ⟨a, e, r⟩ := paired_get (i := i) t (by simpa using q)
    exact ⟨a, by simpa using e, r⟩
section
variable {P : Program} {w : World} {K : PySem.W.Frag} {tg : PySem.Expr} {d : Addr} {es : List DE} {ob : Obj} {arr : Array DictEntry} {ep : Nat}
theorem dicF_raw {h : Heap} (q : DicF d es ob h) (hod : ob.data = .dict arr ep) : h.DictRaw d arr ep ∧ es.length = arr.size ∧ Paired DER es arr.toList := by
  obtain ⟨_, _, o, arr', ep', e1, e2, e3, e4, rfl⟩ := q
  rw [hod] at e3
  cases e3
  exact ⟨⟨o, e1, e2, hod⟩, by rw [Paired.length e4, Array.length_toList], e4⟩
theorem turn_keysD (it : Addr) (hod : ob.data = .dict arr ep) : Turn P w K tg (ItV (some (d, .ext (DicF d es ob))) (es.map (·.2.1))) [it] it (fun i h => h.IsKeyIter it d i arr.size ep) where
  mem := by simp
  obj := fun i h st b hb => by
    have e : b = it := by simpa using hb
    subst e
    obtain ⟨oi, e, c, dd⟩ := st
    exact ⟨oi, e, fun v z => by rw [dd] at z; cases z⟩
  keep := fun i h h' st k => st.at fun oi e => k it (by simp) oi e
  item := by
    intro X hP hw hK hc i pins s σ H E I hf st hg
    subst hP hw hK
    obtain ⟨hi, hd⟩ := hg
    have hd := hd _ rfl
    obtain ⟨f0, f1, f2, f3, f4, f5⟩ := hf it (by simp)
    obtain ⟨hr, hl, hp⟩ := dicF_raw (I.hok _ _ hd).1 hod
    have hi' : i < arr.size := by rw [List.length_map] at hi; omega
    refine wpAny_pyNext_keys_item_raw st hr hi' fun h' st' sb => ?_
    have I1 : Inv X pins σ H { s with heap := h' } := I.turned (t' := s.toks) (fun b o hb e => (sb.2 b hb).trans e) f0 f1 f3 f4 f5
    obtain ⟨x, hx, rx⟩ := paired_get (i := i) hp (by rw [Array.getElem?_toList, Array.getElem?_eq_getElem hi'])
    obtain ⟨oi, e, c, dd⟩ := id st'
    exact ⟨_, rfl, go_of (s := { s with heap := h' }) e c dd (by decide) ⟨x.2.1, H, I1, rx.2.1, ⟨rfl, by rw [List.getElem?_map, hx]; rfl⟩, st', fun b hb => (hf b hb).1⟩⟩
  done := by
    intro X hP hw hK hc i pins s σ H E I hf st hg
    subst hP hw hK
    obtain ⟨hi, hd⟩ := hg
    have hd := hd _ rfl
    obtain ⟨f0, f1, f2, f3, f4, f5⟩ := hf it (by simp)
    obtain ⟨hr, hl, hp⟩ := dicF_raw (I.hok _ _ hd).1 hod
    rw [List.length_map] at hi
    exact wpAny_pyNext_keys_end_raw (I.ok.hd hc) st hr (by omega) fun h' eb => ⟨rfl, I.turned (t' := s.toks) (fun b o hb e => eb b o hb e) f0 f1 f3 f4 f5⟩
  self := fun A i s Q E st h => wpAny_pyIter_keyiter st h
theorem turn_valsD (it : Addr) (hod : ob.data = .dict arr ep) : Turn P w K tg (ItV (some (d, .ext (DicF d es ob))) (es.map (·.2.2))) [it] it (fun i h => h.IsValIter it d i arr.size ep) where
  mem := by simp
  obj := fun i h st b hb => by
    have e : b = it := by simpa using hb
    subst e
    obtain ⟨oi, e, c, dd⟩ := st
    exact ⟨oi, e, fun v z => by rw [dd] at z; cases z⟩
  keep := fun i h h' st k => st.at fun oi e => k it (by simp) oi e
  item := by
    intro X hP hw hK hc i pins s σ H E I hf st hg
    subst hP hw hK
    obtain ⟨hi, hd⟩ := hg
    have hd := hd _ rfl
    obtain ⟨f0, f1, f2, f3, f4, f5⟩ := hf it (by simp)
    obtain ⟨hr, hl, hp⟩ := dicF_raw (I.hok _ _ hd).1 hod
    have hi' : i < arr.size := by rw [List.length_map] at hi; omega
    refine wpAny_pyNext_values_item_raw st hr hi' fun h' st' sb => ?_
    have I1 : Inv X pins σ H { s with heap := h' } := I.turned (t' := s.toks) (fun b o hb e => (sb.2 b hb).trans e) f0 f1 f3 f4 f5
    obtain ⟨x, hx, rx⟩ := paired_get (i := i) hp (by rw [Array.getElem?_toList, Array.getElem?_eq_getElem hi'])
    obtain ⟨oi, e, c, dd⟩ := id st'
    exact ⟨_, rfl, go_of (s := { s with heap := h' }) e c dd (by decide) ⟨x.2.2, H, I1, rx.2.2, ⟨rfl, by rw [List.getElem?_map, hx]; rfl⟩, st', fun b hb => (hf b hb).1⟩⟩
  done := by
    intro X hP hw hK hc i pins s σ H E I hf st hg
    subst hP hw hK
    obtain ⟨hi, hd⟩ := hg
    have hd := hd _ rfl
    obtain ⟨f0, f1, f2, f3, f4, f5⟩ := hf it (by simp)
    obtain ⟨hr, hl, hp⟩ := dicF_raw (I.hok _ _ hd).1 hod
    rw [List.length_map] at hi
    exact wpAny_pyNext_values_end_raw (I.ok.hd hc) st hr (by omega) fun h' eb => ⟨rfl, I.turned (t' := s.toks) (fun b o hb e => eb b o hb e) f0 f1 f3 f4 f5⟩
  self := fun A i s Q E st h => wpAny_pyIter_valiter st h
end
def iKeysD (td : TE) : TI := fun σ H R => td σ H fun x H1 => ∃ (a : Addr) (es : List DE) (ob : Obj), x = .ref a ∧ H1 a = some (.ext (DicF a es ob)) ∧ R (ItV (some (a, .ext (DicF a es ob))) (es.map (·.2.1))) H1
def iValsD (td : TE) : TI := fun σ H R => td σ H fun x H1 => ∃ (a : Addr) (es : List DE) (ob : Obj), x = .ref a ∧ H1 a = some (.ext (DicF a es ob)) ∧ R (ItV (some (a, .ext (DicF a es ob))) (es.map (·.2.2))) H1
section
variable {X : Cx} {tg o : PySem.Expr} {td : TE} {apos q : Pos}
theorem pi_keysD (ho : PE X o td) (hbase : attributeBase o "keys" X.env (eval o X.env) = eval o X.env) (hline : (apos.endLine == q.line) = true) : PI X tg (.Call (.Attribute o "keys" apos) [] [] q) (iKeysD td) := by
  refine ⟨fun pins s σ H R I h => ?_⟩
  refine wpAny_Call_method0_late hbase hline (thn (ho.run pins s σ H _ I h) fun u s1 ⟨x, H1, I1, rx, a, es, ob, ex, ha, q1⟩ => ?_)
  subst ex
  obtain rfl : u = Value.ref a := rx
  obtain ⟨z, hsm, o, arr, ep, e1, e2, e3, e4, e5⟩ := (I1.hok a _ ha).1
  have hr : s1.heap.DictRaw a arr ep := ⟨o, e1, e2, e3⟩
  refine ⟨"dict", "dict.keys", PySem.F.plainAttrs_dict, PySem.F.slot_dict_keys, PySem.F.type_dict_keys, hr.typeIs, fun b e => ?_, ?_⟩
  · cases e
    obtain ⟨ob, h1, h2, _⟩ := hr
    exact ⟨ob, h1, h2.2.1⟩
  refine Calls.callWith_builtin rfl (PySem.evalArgs_none ?_)
  refine call_meetsIn PySem.F.slot_dict_keys hr.typeIs PySem.F.entry_dict_keys (PySem.F.args_dict_keys_1 _) (meets_dict_keys_raw a hsm) ⟨⟨arr, ep, hr⟩, ?_⟩
  have I2 : Inv X pins σ H1 { s1 with heap := s1.heap.push { cls := .type "dict_keys", data := .fields #[.ref a] } } := I1.kept (t' := s1.toks) fun b ob q => Heap.get?_push_of_some _ q
  have hr2 : (s1.heap.push { cls := .type "dict_keys", data := .fields #[.ref a] }).DictRaw a arr ep := hr.at fun _ q => Heap.get?_push_of_some _ q
  subst e5
  exact wpAny_pyIter_keys_raw ⟨_, Heap.get?_push_size _ rfl, rfl, rfl⟩ hr2 (pi_one (tk := s1.toks) I2 _ (turn_keysD _ e3) ⟨_, Heap.get?_push_size _ rfl, rfl, rfl⟩ q1)
theorem pi_valsD (ho : PE X o td) (hbase : attributeBase o "values" X.env (eval o X.env) = eval o X.env) (hline : (apos.endLine == q.line) = true) : PI X tg (.Call (.Attribute o "values" apos) [] [] q) (iValsD td) := by
  refine ⟨fun pins s σ H R I h => ?_⟩
  refine wpAny_Call_method0_late hbase hline (thn (ho.run pins s σ H _ I h) fun u s1 ⟨x, H1, I1, rx, a, es, ob, ex, ha, q1⟩ => ?_)
  subst ex
  obtain rfl : u = Value.ref a := rx
  obtain ⟨z, hsm, o, arr, ep, e1, e2, e3, e4, e5⟩ := (I1.hok a _ ha).1
  have hr : s1.heap.DictRaw a arr ep := ⟨o, e1, e2, e3⟩
  refine ⟨"dict", "dict.values", PySem.F.plainAttrs_dict, PySem.F.slot_dict_values, PySem.F.type_dict_values, hr.typeIs, fun b e => ?_, ?_⟩
  · cases e
    obtain ⟨ob, h1, h2, _⟩ := hr
    exact ⟨ob, h1, h2.2.1⟩
  refine Calls.callWith_builtin rfl (PySem.evalArgs_none ?_)
  refine call_meetsIn PySem.F.slot_dict_values hr.typeIs PySem.F.entry_dict_values (PySem.F.args_dict_values_1 _) (meets_dict_values_raw a hsm) ⟨⟨arr, ep, hr⟩, ?_⟩
  have I2 : Inv X pins σ H1 { s1 with heap := s1.heap.push { cls := .type "dict_values", data := .fields #[.ref a] } } := I1.kept (t' := s1.toks) fun b ob q => Heap.get?_push_of_some _ q
  have hr2 : (s1.heap.push { cls := .type "dict_values", data := .fields #[.ref a] }).DictRaw a arr ep := hr.at fun _ q => Heap.get?_push_of_some _ q
  subst e5
  exact wpAny_pyIter_values_raw ⟨_, Heap.get?_push_size _ rfl, rfl, rfl⟩ hr2 (pi_one (tk := s1.toks) I2 _ (turn_valsD _ e3) ⟨_, Heap.get?_push_size _ rfl, rfl, rfl⟩ q1)
end
/-- another form of the same turns -/
theorem Turn.imp {P : Program} {w : World} {K : PySem.W.Frag} {tg : PySem.Expr} {J J' : It} {fp : List Addr} {it : Addr} {tn : Nat → Heap → Prop} (T : Turn P w K tg J fp it tn) (h1 : ∀ i H, J'.go i H → J.go i H) (h2 : ∀ i H x H', J'.go i H → J.yld i H x H' → J'.yld i H x H') (h3 : ∀ i H, J'.stop i H → J.stop i H) : Turn P w K tg J' fp it tn where
  mem := T.mem
  obj := T.obj
  keep := T.keep
  item := fun X hP hw hK hc i pins s σ H E I hf st hg => wpAny_mono (T.item X hP hw hK hc i pins s σ H E I hf st (h1 i H hg)) (fun r s1 ⟨u, e, q⟩ => ⟨u, e, wpAny_mono q (fun _ s2 ⟨x, H', a, b, c, d⟩ => ⟨x, H', a, b, h2 i H x H' hg c, d⟩) fun _ _ z => z⟩) fun _ _ z => z
  done := fun X hP hw hK hc i pins s σ H E I hf st hg => T.done X hP hw hK hc i pins s σ H E I hf st (h3 i H hg)
  self := T.self
/-! ### range with a step, as values -/
theorem rangeC_get {c : Int} : ∀ {n : Nat} {lo : Int} {i : Nat}, i < n → (rangeC lo c n)[i]? = some (.int (lo + (i : Nat) * c))
  | n + 1, lo, 0, _ => by simp [rangeC]
  | n + 1, lo, i + 1, h => by
    rw [rangeC, List.getElem?_cons_succ, rangeC_get (Nat.lt_of_succ_lt_succ h)]
    congr 2
    push_cast
    rw [Int.add_mul]
    omega
theorem rangeC_len {c : Int} : ∀ {n : Nat} {lo : Int}, (rangeC lo c n).length = n
  | 0, _ => rfl
  | n + 1, lo => by rw [rangeC, List.length_cons, rangeC_len]
def rangeCV (lo c : Int) : Nat → List V
  | 0 => []
  | n + 1 => .int lo :: rangeCV (lo + c) c n
theorem rangeCV_rps {K : PySem.W.Frag} {O : Addr → Prop} {H : Hp} {c : Int} : ∀ {n : Nat} {lo : Int}, Rps K O H (rangeC lo c n) (rangeCV lo c n)
  | 0, _ => .nil
  | n + 1, lo => .cons (.int _) rangeCV_rps
theorem rangeCV_get {c : Int} : ∀ {n : Nat} {lo : Int} {i : Nat}, i < n → (rangeCV lo c n)[i]? = some (.int (lo + (i : Nat) * c))
  | n + 1, lo, 0, _ => by simp [rangeCV]
  | n + 1, lo, i + 1, h => by
    rw [rangeCV, List.getElem?_cons_succ, rangeCV_get (Nat.lt_of_succ_lt_succ h)]
    congr 2
    push_cast
    rw [Int.add_mul]
    omega
theorem rangeCV_len {c : Int} : ∀ {n : Nat} {lo : Int}, (rangeCV lo c n).length = n
  | 0, _ => rfl
  | n + 1, lo => by rw [rangeCV, List.length_cons, rangeCV_len]
theorem stepN_size {i j c : Int} (hc : 0 < c) : Builtin.Range.rangeSize i j c = (stepN i j c : Nat) := by
  unfold Builtin.Range.rangeSize stepN
  rw [if_pos hc]
  split
  · rename_i h
    have : 0 ≤ (j - i - 1) / c := Int.ediv_nonneg (by omega) (by omega)
    push_cast
    omega
  · rfl
theorem stepN_rg {i j c : Int} (h : (rangeOk i j && decide (0 < c ∧ c < 1000000)) = true) : RgC i j c (stepN i j c) := by
  rw [Bool.and_eq_true] at h
  obtain ⟨h1, h2⟩ := h
  obtain ⟨a1, a2, a3, a4⟩ := of_decide_eq_true h1
  obtain ⟨c1, c2⟩ := of_decide_eq_true h2
  refine ⟨by omega, by omega, ?_, stepN_size c1⟩
  unfold Builtin.Range.small
  unfold Builtin.Range.rangeSize
  rw [if_pos c1]
  simp only [Builtin.Range.rangeFitsLong, Bool.and_eq_true, Bool.or_eq_true, decide_eq_true_eq, beq_iff_eq, c1, if_true]
  have k1 : i < j → c * ((j - i - 1) / c) ≤ j - i - 1 := fun h => Int.mul_ediv_self_le (by omega)
  have k2 : i < j → 0 ≤ (j - i - 1) / c := fun h => Int.ediv_nonneg (by omega) (by omega)
  have k3 : i < j → (j - i - 1) / c ≤ j - i - 1 := fun h => Int.ediv_le_self _ (by omega)
  split <;> omega
def iRngC (ta : TA) : TI := fun σ H R => ta σ H fun vs H1 => ∃ (i j c : Int), vs = [.int i, .int j, .int c] ∧ (rangeOk i j && decide (0 < c ∧ c < 1000000)) = true ∧ R (ItV none (rangeCV i c (stepN i j c))) H1
theorem pi_rangeC {X : Cx} {tg a b c : PySem.Expr} {ta : TA} {p pos : Pos} (hg : Gl X "range") (hm : X.mg "range" = none) (ha : PA X [a, b, c] ta)
    (hs : starEach [a, b, c] X.env = (false, eval a X.env) :: starEach [b, c] X.env) (hpl : (backTo pos (starEach [b, c] X.env)).any (·.1) = false) :
    PI X tg (.Call (.Name "range" p) [a, b, c] [] pos) (iRngC ta) := by
  refine ⟨fun pins s σ H R I h => ?_⟩
  refine Call_ (ld_blt I hg hm boot_range (PyProof.Rows.callWith_type1 (thn (ha.run pos pins s σ H _ I h) fun us s1 ⟨vs, H1, I1, r1, q1⟩ => ?_) hs hpl))
  obtain ⟨i, j, k, e, hk, q⟩ := q1
  obtain ⟨c0, c1, c2, c3⟩ := stepN_rg hk
  subst e
  cases r1 with
  | cons r rr =>
    cases rr with
    | cons r' rr =>
      cases rr with
      | cons r'' rr =>
        cases rr
        obtain ⟨t, rfl⟩ := r
        obtain ⟨t', rfl⟩ := r'
        obtain ⟨t'', rfl⟩ := r''
        refine call_range_3 c0 ?_ (.inl (PyProof.noPylong_small c1))
        refine wpAny_pyIter_range (IsRange.new ..) c2 ?_
        have I2 : Inv X pins σ H1 { s1 with heap := s1.heap.push { cls := .type "range", data := .fields #[.int i t, .int j t', .int k t''] } } := I1.kept (t' := s1.toks) fun b o e => Heap.get?_push_of_some _ e
        have hl : (rangeCV i k (stepN i j k)).length = stepN i j k := rangeCV_len
        refine pi_one (tk := s1.toks) I2 _ (Ev.Turn.imp (J' := ItV none (rangeCV i k (stepN i j k))) (turn_rangeC _ i k (stepN i j k)) (fun m H h => ?_) (fun m H x H' h z => ⟨z.1, ?_⟩) fun m H h => ?_) ?_ q
        · have : m < (rangeCV i k (stepN i j k)).length := h.1
          rw [hl] at this
          exact this
        · have : m < (rangeCV i k (stepN i j k)).length := h.1
          rw [hl] at this
          rw [rangeCV_get this, z.2]
        · have : (rangeCV i k (stepN i j k)).length ≤ m := h.1
          rw [hl] at this
          exact this
        have e1 : i + ((0 : Nat) : Int) * k = i := by simp
        have e2 : ((stepN i j k : Nat) : Int) - ((0 : Nat) : Int) = Builtin.Range.rangeSize i j k := by rw [c3]; simp
        show IsRangeIter _ _ (i + ((0 : Nat) : Int) * k) (((stepN i j k : Nat) : Int) - ((0 : Nat) : Int)) k
        rw [e1, e2]
        exact Heap.get?_push_size _ rfl
/-! ### a comparison of four -/
section
variable {X : Cx} {a b c d : PySem.Expr} {ta tb tc td : TE} {pos : Pos}
def tCh4 (r r' r'' : R2) (ta tb tc td : TE) : TE := fun σ H Q => ta σ H fun x H1 => tb σ H1 fun y H2 => r x y H2 fun z H3 => ∃ k, z = .bl k ∧
  (if k = true then tc σ H3 fun w' H4 => r' y w' H4 fun z' H5 => ∃ k', z' = .bl k' ∧ (if k' = true then td σ H5 fun w2 H6 => r'' w' w2 H6 Q else Q (.bl false) H5) else Q (.bl false) H3)
theorem pe_ch4 {op op' op'' : CmpOp} {r r' r'' : R2} (ho : OpR X (compareOp op) r) (ho' : OpR X (compareOp op') r') (ho2 : OpR X (compareOp op'') r'') (ha : PE X a ta) (hb : PE X b tb) (hc : PE X c tc) (hd : PE X d td)
    (hm : lastMarks [op, op', op''] [b, c, d] = false) : PE X (.Compare a [op, op', op''] [b, c, d] pos) (tCh4 r r' r'' ta tb tc td) := by
  refine ⟨fun pins s σ H Q I h => ?_⟩
  refine Compare_chain (thn (ha.run pins s σ H _ I h) fun v s1 ⟨x, H1, I1, r1, q1⟩ => chain_link (thn (hb.run pins s1 σ H1 _ I1 q1) fun u s2 ⟨y, H2, I2, r2, q2⟩ =>
    thn (ho pins s2 σ H2 x y v u _ I2 r1 r2 q2) fun d s3 ⟨z, H3, I3, r3, k, e, q3⟩ => ?_)) hm
  subst e
  cases r3
  refine wpAny_truthy_bool ?_
  cases k with
  | false => exact ite_ff ⟨.bl false, H3, I3, rfl, q3⟩
  | true =>
    refine ite_tt (chain_link (thn (hc.run pins s3 σ H3 _ I3 q3) fun w' s4 ⟨z', H4, I4, r4, q4⟩ => thn (ho' pins s4 σ H4 y z' u w' _ I4 r2 r4 q4) fun d s5 ⟨z5, H5, I5, r5, k', e', q5⟩ => ?_))
    subst e'
    cases r5
    refine wpAny_truthy_bool ?_
    cases k' with
    | false => exact ite_ff ⟨.bl false, H5, I5, rfl, q5⟩
    | true => exact ite_tt (chain_last (thn (hd.run pins s5 σ H5 _ I5 q5) fun w2 s6 ⟨z6, H6, I6, r6, q6⟩ => ho2 pins s6 σ H6 z' z6 w' w2 Q I6 r4 r6 q6))
end
/-! ### a dict of one pair -/
section
variable {X : Cx} {pins : List (Addr × Obj)} {σ : L2.St} {H : Hp} {s : Shared} {O : Addr → Prop} {A : Around} {E : Value → Shared → Prop} {a : Addr} {ds : List D} {vs : List V} {k : D} {y : V} {u : Value}
/-- d[k] = x -/
theorem dicT_set {Q : Unit → Shared → Prop} {d : D} {v : V} {x : Value} (hu : A.units + 9 < cLine) (I : Inv X pins σ H s) (ha : DicAt H a (ent ds vs)) (ok : DOk ds) (r : Rps X.K O H ds vs) (f : fitD k ds = true) (ht : isIntD k = false) (hl : ds.length < lim) (rk : Rp X.K O H k y) (ry : RelV y u) (rd : Rp X.K O H d v) (rv : RelV v x)
    (h : ∀ vs' ob s', DOk (putD k d ds) → Rps X.K O H (putD k d ds) vs' → Inv X pins σ (upd H a (.ext (DicF a (ent (putD k d ds) vs') ob))) s' → Q () s') : wpAny (model X.prog X.w) A (dictSet a u x) Q E s := by
  obtain ⟨kp, kd, ⟨ks, rfl⟩, kt⟩ := fit_kt ok f ht
  obtain ⟨b, rfl, rfl⟩ := tup_ref rk ry
  obtain ⟨xs, x1, x2, x3, x4⟩ := dic_at I ha ok r kt
  refine wpAny_dictSet_heap (hsz := x3) (show A.units + 8 < cLine by omega) (isKey I kp kd rk) x1 fun h' hm' hs' => ?_
  have hn : (xs.map (·.1)).Nodup := by rw [x4.keys]; exact ok.nd
  have c := x4.put hn kp kd ⟨ks, rfl⟩ rk rd rv
  obtain ⟨o, arr, ep, e1, e2, e3, e4, e5, e6⟩ := hm'
  have hok : DOk (putD (.tup ks) d ds) := ⟨c.ev, by rw [← c.keys]; exact e6, .inr c.kt⟩
  refine h _ _ _ hok c.rps (I.write (x := a) (e := a) (by obtain ⟨_, ha⟩ := ha; rw [ha]; exact True.intro) (.inl rfl) (fun b q hb z => (hs'.2 b hb).trans z) ⟨o, e1⟩ (dicF_ok ⟨?_, x2, o, arr, ep, e1, e2, e3, by rw [e4]; exact c.ents, rfl⟩))
  have := putD_len (.tup ks) d ds ok.ev
  have := c.len
  have := c.elen
  have : lim ≤ sizeLine := by decide
  omega
/-- d[k] = x -/
theorem dic_set {Q : Unit → Shared → Prop} {d : D} {v : V} {x : Value} (hu : A.units + 9 < cLine) (I : Inv X pins σ H s) (ha : DicAt H a (ent ds vs)) (ok : DOk ds) (r : Rps X.K O H ds vs) (f : fitD k ds = true) (hl : ds.length < lim) (rk : Rp X.K O H k y) (ry : RelV y u) (rd : Rp X.K O H d v) (rv : RelV v x)
    (h : ∀ vs' ob s', DOk (putD k d ds) → Rps X.K O H (putD k d ds) vs' → Inv X pins σ (upd H a (.ext (DicF a (ent (putD k d ds) vs') ob))) s' → Q () s') : wpAny (model X.prog X.w) A (dictSet a u x) Q E s := by
  cases hi : isIntD k with
  | false => exact dicT_set hu I ha ok r f hi hl rk ry rd rv h
  | true =>
    obtain ⟨i, rfl⟩ := isInt_i hi
    unfold Rp at rk
    subst rk
    obtain ⟨xs, x1, x2, x3, x4⟩ := dicI_at I ha ok r (fit_ki ok f)
    refine wpAny_dictSet_pairs (hsz := x3) (kV_is (k := Sum.inl i) ry) x1 fun h' hm' hs' => ?_
    have hn : (xs.map (·.1)).Nodup := x4.nk.mpr ok.nd
    have c := x4.put hn (i := i) rd rv
    obtain ⟨o, arr, ep, e1, e2, e3, e4, e5, e6⟩ := hm'
    have hok : DOk (putD (.int i) d ds) := ⟨c.ev, c.nk.mp e6, .inl c.ints.1⟩
    refine h _ _ _ hok c.rps (I.write (x := a) (e := a) (by obtain ⟨_, ha⟩ := ha; rw [ha]; exact True.intro) (.inl rfl) (fun b q hb z => (hs'.2 b hb).trans z) ⟨o, e1⟩ (dicF_ok ⟨?_, x2, o, arr, ep, e1, e2, e3, c.back (P := X.prog) (w := X.w) (fun e he => e4 e (by simpa using he)) e5, rfl⟩))
    have := putD_len (.int i) d ds ok.ev
    have := c.len
    have : lim ≤ sizeLine := by decide
    omega
end
section
variable {prog : Program} {w : World} {A : Around} {E : Value → Shared → Prop} {s : Shared}
theorem wpAny_subDict1 {m1 m2 : Sem Value} {Q : Addr → Shared → Prop}
    (h : wpAny (model prog w) A m1 (fun kv s₁ => wpAny (model prog w) A m2 (fun vv s₂ => wpAny (model prog w) A (dictSet s.heap.objs.size kv vv) (fun _ s₃ => Q s.heap.objs.size s₃) E s₂) E s₁) E { s with heap := s.heap.push { cls := .type "dict", data := .dict #[] } }) :
    wpAny (model prog w) A (subDict [(m1, m2)]) Q E s := by
  unfold subDict
  refine wpAny_bind (wpAny_alloc ?_)
  refine wpAny_bind (wpAny_holding ?_)
  rw [if_pos (show [(m1, m2)].length ≤ 15 by rw [List.length_singleton]; decide)]
  refine wpAny_bind (evalPairs_cons (wpAny_mono h (fun kv s₁ h₁ => wpAny_mono h₁ (fun vv s₂ h₂ => evalPairs_nil ?_) fun _ _ e => e) fun _ _ e => e))
  refine wpAny_holding ?_
  refine wpAny_bind ?_
  rw [List.forIn_cons]
  refine wpAny_bind (wpAny_bind (wpAny_mono h₂ (fun _ s₃ h₃ => wpAny_pure ?_) fun _ _ e => e))
  dsimp only
  rw [List.forIn_nil]
  exact wpAny_pure (wpAny_pure (wpAny_pure h₃))
theorem wpAny_Dict1 {env : PySem.Env} {kx vx : PySem.Expr} {pos : Pos} {Q : Value → Shared → Prop}
    (h : wpAny (model prog w) A (eval kx env) (fun kv s₁ => wpAny (model prog w) A (eval vx env) (fun vv s₂ => wpAny (model prog w) A (dictSet s.heap.objs.size kv vv) (fun _ s₃ => Q (.ref s.heap.objs.size) s₃) E s₂) E s₁) E { s with heap := s.heap.push { cls := .type "dict", data := .dict #[] } }) :
    wpAny (model prog w) A (eval (.Dict [some kx] [vx] pos) env) Q E s := by
  have hshape : (evalEachOpt [some kx] env).zip ((evalEach [vx] env).map fun v => do let x ← v; standAt pos; pure x) = [(eval kx env, (do let x ← eval vx env; standAt pos; pure x : Sem Value))].map fun p => (some p.1, p.2) := rfl
  rw [arm_eval_Dict, hshape, dictDisplay_pairs _ (by simp) (by rw [List.length_singleton]; decide)]
  refine wpAny_bind (wpAny_standAt (wpAny_bind (wpAny_subDict1 (Q := fun d s' => wpAny (model prog w) A (pure (Value.ref d)) Q E s') (wpAny_mono h (fun kv s₁ h₁ => ?_) fun _ _ e => e))))
  refine wpAny_bind (wpAny_mono h₁ (fun vv s₂ h₂ => wpAny_bind (wpAny_standAt (wpAny_pure (wpAny_mono h₂ (fun _ s₃ h₃ => wpAny_pure h₃) fun _ _ e => e)))) fun _ _ e => e)
end
theorem dok_nil0 : DOk [] := ⟨rfl, List.nodup_nil, .inr fun k h => absurd h List.not_mem_nil⟩
/-- {k: v} -/
def tDlit1 (K : PySem.W.Frag) (tk tv : TE) : TE := fun σ H Q => ∀ p ob, H p = none → tk σ (upd H p (.ext (DicF p [] ob))) fun y H1 => tv σ H1 fun v H2 => H2 p = some (.ext (DicF p [] ob)) ∧ ∃ (O : Addr → Prop) (k d : D), fitD k [] = true ∧ Rp K O H2 k y ∧ Rp K O H2 d v ∧
  ∀ ob' vs', DOk [k, d] → Rps K O H2 [k, d] vs' → Q (.ref p) (upd H2 p (.ext (DicF p (ent [k, d] vs') ob')))
theorem pe_dlit1 {X : Cx} {kx vx : PySem.Expr} {tk tv : TE} {pos : Pos} (hu : X.A.units + 65 < cLine) (hk : PE X kx tk) (hv : PE X vx tv) : PE X (.Dict [some kx] [vx] pos) (tDlit1 X.K tk tv) := by
  refine ⟨fun pins s σ H Q I h => ?_⟩
  have I0 : Inv X pins σ (upd H s.heap.objs.size (.ext (DicF s.heap.objs.size [] { cls := .type "dict", data := .dict #[] }))) { s with heap := s.heap.push { cls := .type "dict", data := .dict #[] } } :=
    I.laid (a := s.heap.objs.size) (t' := s.toks) (fun _ _ q => Heap.get?_push_of_some _ q) (Nat.le_refl _) (dicF_ok ⟨Nat.zero_le _, beq_eq_false_iff_ne.mpr (Ne.symm (Nat.ne_of_lt I.big)), _, #[], 0, Heap.get?_push_size _ rfl, ⟨rfl, rfl, rfl⟩, rfl, .nil, rfl⟩)
  refine wpAny_Dict1 (thn (hk.run pins _ σ _ _ I0 (h _ _ (I.hok.fresh (Nat.le_refl _)))) fun u s1 ⟨y, H1, I1, r1, q1⟩ => thn (hv.run pins s1 σ H1 _ I1 q1) fun u2 s2 ⟨v, H2, I2, r2, q2⟩ => ?_)
  obtain ⟨hp, O, k, d, hf, rk, rd, q⟩ := q2
  refine dic_set (ds := []) (vs := []) (O := O) (Nat.lt_of_le_of_lt (Nat.add_le_add_left (by decide) _) hu) I2 ⟨_, hp⟩ dok_nil0 .nil hf (by decide) rk r1 rd r2 fun vs' ob' s' ok' r' I' => ?_
  exact ⟨.ref s.heap.objs.size, _, I', rfl, q ob' vs' ok' r'⟩
end Ev
set_option Elab.async false
set_option linter.all false
set_option maxRecDepth 100000
set_option maxHeartbeats 4000000
set_option autoImplicit false
/-! Ev7b: keys and values walked, range with a step, chains of four. -/
namespace Ev
open PySem PySem.Spec PyProof.Rows L2
variable [TabT]
/-! ### a dict's keys and values among its content -/
section
variable {K : PySem.W.Frag} {O : Addr → Prop} {H : Hp}
theorem ent_keys : ∀ {ds : List D} {vs : List V}, evn ds = true → Rps K O H ds vs → (ent ds vs).map (·.2.1) = keysV vs
  | [], vs, _, h => by rw [h.unnil]; rfl
  | [_], _, h, _ => by cases h
  | k :: d :: ds, vs, he, h => by
    obtain ⟨v, r, rfl, h1, h2⟩ := h.uncons
    obtain ⟨u, q, rfl, h3, h4⟩ := h2.uncons
    show v :: (ent ds q).map (·.2.1) = v :: keysV q
    rw [ent_keys (ds := ds) he h4]
def valsV : List V → List V
  | _ :: x :: vs => x :: valsV vs
  | _ => []
theorem ent_vals : ∀ {ds : List D} {vs : List V}, evn ds = true → Rps K O H ds vs → (ent ds vs).map (·.2.2) = valsV vs
  | [], vs, _, h => by rw [h.unnil]; rfl
  | [_], _, h, _ => by cases h
  | k :: d :: ds, vs, he, h => by
    obtain ⟨v, r, rfl, h1, h2⟩ := h.uncons
    obtain ⟨u, q, rfl, h3, h4⟩ := h2.uncons
    show u :: (ent ds q).map (·.2.2) = u :: valsV q
    rw [ent_vals (ds := ds) he h4]
theorem vals_rps : ∀ {ds : List D} {vs : List V}, evn ds = true → Rps K O H ds vs → Rps K O H (valsD ds) (valsV vs)
  | [], vs, _, h => by rw [h.unnil]; exact .nil
  | [_], _, h, _ => by cases h
  | k :: d :: ds, vs, he, h => by
    obtain ⟨v, r, rfl, h1, h2⟩ := h.uncons
    obtain ⟨u, q, rfl, h3, h4⟩ := h2.uncons
    exact .cons h3 (vals_rps (ds := ds) he h4)
end
section
variable {RX : RXT} {Γ : Gam} {C : Ctx} {gv : Nat → V} {K : PySem.W.Frag} {W : WX} {pos : Pos} {x y z w : PySem.Expr} {fa fb fc fd : Env → R D}
def keysF (fa : Env → R D) : Env → R (List D) := fun e => (fa e).bind fun x e => match x with
    | .dic ds => .ok (keysD ds) e
    | _ => .no
theorem si_keys {tg : PySem.Expr} {n : Str} {p ap cp : Pos} (hl : (ap.endLine == cp.line) = true) (ha : SE RX Γ C gv K W (.Name n p) fa) : SI RX Γ C gv K W tg (.Call (.Attribute (.Name n p) "keys" ap) [] [] cp) (keysF fa) := by
  obtain ⟨ta, pa, qa⟩ := ha
  refine ⟨iKeysD ta, fun X ok hK => pi_keysD (pa X ok hK) rfl hl, fun B e σ H Q rs h => ?_⟩
  have h : Post RX K W B e σ H (Wk K) (keysF fa e) Q := h
  refine qa B e σ H _ rs (Post.bind h fun d e1 v H1 _ rs1 _ r1 h1 => ?_)
  cases d with
  | dic ds =>
    obtain ⟨a, vs, rfl, n, ⟨ob, s⟩, ok, r⟩ := r1.undic
    refine ⟨a, _, ob, rfl, s, h1 _ H1 rs1 .refl (.inr (.inr (.inr (.inr (.inr (.inl ⟨_, _, rfl, ?_, fun p hp => ?_⟩))))))⟩
    · rw [ent_keys ok.ev r]
      exact keys_rps ok.ev r
    · cases hp
      exact ⟨s, .ext, n⟩
  | _ => exact h1.elim
def valsF (fa : Env → R D) : Env → R (List D) := fun e => (fa e).bind fun x e => match x with
    | .dic ds => .ok (valsD ds) e
    | _ => .no
theorem si_vals {tg : PySem.Expr} {n : Str} {p ap cp : Pos} (hl : (ap.endLine == cp.line) = true) (ha : SE RX Γ C gv K W (.Name n p) fa) : SI RX Γ C gv K W tg (.Call (.Attribute (.Name n p) "values" ap) [] [] cp) (valsF fa) := by
  obtain ⟨ta, pa, qa⟩ := ha
  refine ⟨iValsD ta, fun X ok hK => pi_valsD (pa X ok hK) rfl hl, fun B e σ H Q rs h => ?_⟩
  have h : Post RX K W B e σ H (Wk K) (valsF fa e) Q := h
  refine qa B e σ H _ rs (Post.bind h fun d e1 v H1 _ rs1 _ r1 h1 => ?_)
  cases d with
  | dic ds =>
    obtain ⟨a, vs, rfl, n, ⟨ob, s⟩, ok, r⟩ := r1.undic
    refine ⟨a, _, ob, rfl, s, h1 _ H1 rs1 .refl (.inr (.inr (.inr (.inr (.inr (.inl ⟨_, _, rfl, ?_, fun p hp => ?_⟩))))))⟩
    · rw [ent_vals ok.ev r]
      exact vals_rps ok.ev r
    · cases hp
      exact ⟨s, .ext, n⟩
  | _ => exact h1.elim
def rng3F (fa fb fc : Env → R D) : Env → R (List D) := fun e => (fa e).bind fun x e => (fb e).bind fun y e => (fc e).bind fun z e => match x, y, z with
    | .int i, .int j, .int k => if (rangeOk i j && decide (0 < k ∧ k < 1000000)) = true then .ok (rangeC i k (stepN i j k)) e else .no
    | _, _, _ => .no
theorem si_rng3 {tg : PySem.Expr} {q : Pos} (hg : glB Γ "range" = true) (s1 : isStar x = false) (s2 : isStar y = false) (s3 : isStar z = false) (ha : SE RX Γ C gv K W x fa) (hb : SE RX Γ C gv K W y fb) (hc : SE RX Γ C gv K W z fc) : SI RX Γ C gv K W tg (.Call (.Name "range" q) [x, y, z] [] pos) (rng3F fa fb fc) := by
  obtain ⟨ta, pa, qa⟩ := ha
  obtain ⟨tb, pb, qb⟩ := hb
  obtain ⟨tc, pc, qc⟩ := hc
  refine ⟨iRngC (tCons ta (tCons tb (tCons tc tNil))), fun X ok hK => ?_, fun B e σ H Q rs h => ?_⟩
  · obtain ⟨g1, g2, g3⟩ := ok.gl hg
    exact pi_rangeC g1 (blt_of ok (by decide +kernel)) (pa_cons (pa X ok hK) (pa_cons (pb X ok hK) (pa_one (pc X ok hK) s3) (star_cons s2)) (star_cons s1)) (star_cons s1) (star_any (by unfold noStar; rw [List.all_cons, List.all_cons, s2, s3]; rfl))
  · have h : Post RX K W B e σ H (Wk K) (rng3F fa fb fc e) Q := h
    refine qa B e σ H _ rs (Post.bind h fun d1 e1 v1 H1 _ rs1 _ r1 h1 => ?_)
    refine qb B e1 σ H1 _ rs1 (Post.bind h1 fun d2 e2 v2 H2 _ rs2 st2 r2 h2 => ?_)
    refine qc B e2 σ H2 _ rs2 (Post.bind h2 fun d3 e3 v3 H3 _ rs3 st3 r3 h3 => ?_)
    cases d1 with
    | int i =>
      cases d2 with
      | int j =>
        cases d3 with
        | int k =>
          simp only at h3
          split at h3
          · rename_i hr
            refine ⟨i, j, k, ?_, hr, h3 _ H3 rs3 .refl (.inr (.inr (.inr (.inr (.inr (.inl ⟨none, _, rfl, rangeCV_rps, fun p hp => by cases hp⟩))))))⟩
            rw [r1.unint, r2.unint, r3.unint]
          · exact h3.elim
        | _ => exact h3.elim
      | _ => cases d3 <;> exact h3.elim
    | _ => cases d2 <;> cases d3 <;> exact h3.elim
def cmp3F (o p q : Cop) (fa fb fc fd : Env → R D) : Env → R D := fun e => (fa e).bind fun x e => (fb e).bind fun y e => match cmpop o x y with
    | some true => (fc e).bind fun z e => match cmpop p y z with
      | some true => (fd e).bind fun w e => R.of ((cmpop q z w).map D.bl) e
      | some false => .ok (.bl false) e
      | none => .no
    | some false => .ok (.bl false) e
    | none => .no
theorem no_last4 {o p q : Cop} (h : isSet w = false) : lastMarks [copOf o, copOf p, copOf q] [y, z, w] = false := no_marks (o := q) h
theorem se_cmp3 {o p q : Cop} (hs : isSet w = false) (ha : SE RX Γ C gv K W x fa) (hb : SE RX Γ C gv K W y fb) (hc : SE RX Γ C gv K W z fc) (hd : SE RX Γ C gv K W w fd) : SE RX Γ C gv K W (.Compare x [copOf o, copOf p, copOf q] [y, z, w] pos) (cmp3F o p q fa fb fc fd) := by
  obtain ⟨ta, pa, qa⟩ := ha
  obtain ⟨tb, pb, qb⟩ := hb
  obtain ⟨tc, pc, qc⟩ := hc
  obtain ⟨td, pd, qd⟩ := hd
  refine ⟨tCh4 (rCmp K o) (rCmp K p) (rCmp K q) ta tb tc td, fun X ok hK => by subst hK; exact pe_ch4 (cmp_ok ok.hu o) (cmp_ok ok.hu p) (cmp_ok ok.hu q) (pa X ok rfl) (pb X ok rfl) (pc X ok rfl) (pd X ok rfl) (no_last4 hs), fun B e σ H Q rs h => ?_⟩
  have h : PostE RX K W B e σ H (cmp3F o p q fa fb fc fd e) Q := h
  refine qa B e σ H _ rs (Post.bind h fun d1 e1 v1 H1 _ rs1 _ r1 h1 => ?_)
  refine qb B e1 σ H1 _ rs1 (Post.bind h1 fun d2 e2 v2 H2 _ rs2 st2 r2 h2 => ?_)
  cases k : cmpop o d1 d2 with
  | none => rw [k] at h2; exact h2.elim
  | some b =>
    rw [k] at h2
    refine ⟨Of B e2 σ, d1, d2, b, rs1.keep st2 r1, r2, k, b, rfl, ?_⟩
    cases b with
    | false =>
      rw [if_neg Bool.false_ne_true]
      exact (Post.same rs2 h2).same (.bl false)
    | true =>
      rw [if_pos rfl]
      refine qc B e2 σ H2 _ rs2 (Post.bind h2 fun d3 e3 v3 H3 _ rs3 st3 r3 h3 => ?_)
      cases k2 : cmpop p d2 d3 with
      | none => rw [k2] at h3; exact h3.elim
      | some b =>
        rw [k2] at h3
        refine ⟨Of B e3 σ, d2, d3, b, rs2.keep st3 r2, r3, k2, b, rfl, ?_⟩
        cases b with
        | false =>
          rw [if_neg Bool.false_ne_true]
          exact (Post.same rs3 h3).same (.bl false)
        | true =>
          rw [if_pos rfl]
          refine qd B e3 σ H3 _ rs3 (Post.bind h3 fun d4 e4 v4 H4 _ rs4 st4 r4 h4 => ?_)
          obtain ⟨d, hd, qv⟩ := Post.vok rs4 h4
          cases k3 : cmpop q d3 d4 with
          | none => rw [k3] at hd; cases hd
          | some b =>
            rw [k3] at hd
            cases hd
            exact ⟨Of B e4 σ, d3, d4, b, rs3.keep st4 r3, r4, k3, qv.same (.bl b)⟩
def rMax3 : List V → Hp → VK → Prop := fun xs H Q => ∃ i j k, xs = [.int i, .int j, .int k] ∧ Q (.int (mostOf [j, k] i)) H
theorem max3_ok {X : Cx} (hc : X.calm = true) : CallR X (.builtin "max") rMax3 := by
  intro pins s σ H xs us Q I r h
  obtain ⟨i, j, k, rfl, q⟩ := h
  cases r with
  | cons r1 r =>
  cases r with
  | cons r2 r =>
  cases r with
  | cons r3 r =>
  cases r
  obtain ⟨t, rfl⟩ := r1
  obtain ⟨u, rfl⟩ := r2
  obtain ⟨x, rfl⟩ := r3
  refine max_three_ints (I.ok.hd hc) fun h' tk kp => ⟨_, H, I.kept kp, ?_, q⟩
  show RelV (.int (mostOf [j, k] i)) _
  by_cases hj : i < j
  · rw [if_pos hj]
    by_cases hk : j < k
    · rw [if_pos hk, show mostOf [j, k] i = k by show (if (if i < j then j else i) < k then k else (if i < j then j else i)) = k; rw [if_pos hj, if_pos hk]]
      exact ⟨_, rfl⟩
    · rw [if_neg hk, show mostOf [j, k] i = j by show (if (if i < j then j else i) < k then k else (if i < j then j else i)) = j; rw [if_pos hj, if_neg hk]]
      exact ⟨_, rfl⟩
  · rw [if_neg hj]
    by_cases hk : i < k
    · rw [if_pos hk, show mostOf [j, k] i = k by show (if (if i < j then j else i) < k then k else (if i < j then j else i)) = k; rw [if_neg hj, if_pos hk]]
      exact ⟨_, rfl⟩
    · rw [if_neg hk, show mostOf [j, k] i = i by show (if (if i < j then j else i) < k then k else (if i < j then j else i)) = i; rw [if_neg hj, if_neg hk]]
      exact ⟨_, rfl⟩
def max3F (fa fb fc : Env → R D) : Env → R D := fun e => (fa e).bind fun x e => (fb e).bind fun y e => (fc e).bind fun z e => match x, y, z with
    | .int i, .int j, .int k => .ok (.int (mostOf [j, k] i)) e
    | _, _, _ => .no
theorem se_max3 {q : Pos} (hg : glB Γ "max" = true) (s1 : isStar y = false) (s2 : isStar z = false) (s3 : isStar w = false) (ha : SE RX Γ C gv K W y fa) (hb : SE RX Γ C gv K W z fb) (hc : SE RX Γ C gv K W w fc) :
    SE RX Γ C gv K W (.Call (.Name "max" q) [y, z, w] [] pos) (max3F fa fb fc) := by
  obtain ⟨ta, pa, qa⟩ := ha
  obtain ⟨tb, pb, qb⟩ := hb
  obtain ⟨tc, pc, qc⟩ := hc
  refine ⟨tCB rMax3 (tCons ta (tCons tb (tCons tc tNil))), fun X ok hK => ?_, fun B e σ H Q rs h => ?_⟩
  · subst hK
    obtain ⟨g1, g2, g3⟩ := ok.gl hg
    have pp : PA X [y, z, w] (tCons ta (tCons tb (tCons tc tNil))) := pa_cons (pa X ok rfl) (pa_cons (pb X ok rfl) (pa_cons (pc X ok rfl) pa_nil (star_cons s3)) (star_cons s2)) (star_cons s1)
    have sa : (backTo pos (starEach [z, w] X.env)).any (·.1) = false := star_any (by unfold noStar; simp [s2, s3])
    exact pe_callB (max3_ok ok.calm) g1 (blt_of ok (by decide +kernel)) (by decide +kernel) pp g3 g2 (star_cons s1) sa
  have h : PostE RX K W B e σ H (max3F fa fb fc e) Q := h
  refine qa B e σ H _ rs (Post.bind h fun d1 e1 v1 H1 _ rs1 _ r1 h1 => ?_)
  refine qb B e1 σ H1 _ rs1 (Post.bind h1 fun d2 e2 v2 H2 _ rs2 st2 r2 h2 => ?_)
  refine qc B e2 σ H2 _ rs2 (Post.bind h2 fun d3 e3 v3 H3 _ rs3 st3 r3 h3 => ?_)
  cases d1 with
  | int i => cases d2 with
    | int j => cases d3 with
      | int k =>
        have r1 := rs2.keep st3 (rs1.keep st2 r1)
        have r2 := rs2.keep st3 r2
        exact ⟨i, j, k, by rw [r1.unint, r2.unint, r3.unint], (Post.same rs3 h3).same (.int _)⟩
      | _ => exact h3.elim
    | _ => exact h3.elim
  | _ => exact h3.elim
end
end Ev
set_option Elab.async false
set_option linter.all false
set_option maxRecDepth 100000
set_option maxHeartbeats 4000000
set_option autoImplicit false
/-! Ev9d: dicts written out: new dicts. -/
namespace Ev
open PySem PySem.Spec PyProof.Rows L2
variable [TabT]
section
variable {RX : RXT} {Γ : Gam} {C : Ctx} {gv : Nat → V} {K : PySem.W.Frag} {W : WX} {pos : Pos} {x y : PySem.Expr} {fa fb : Env → R D}
def tDNew0 : TE := fun _ H Q => ∀ p ob, H p = none → Q (.ref p) (upd H p (.ext (DicF p [] ob)))
theorem pe_dnew0 {X : Cx} {pos : Pos} : PE X (.Dict [] [] pos) tDNew0 := ⟨fun pins s σ H Q I h =>
  wpAny_Dict_empty ⟨.ref s.heap.objs.size, _, I.laid (a := s.heap.objs.size) (o := .ext (DicF s.heap.objs.size [] _)) (t' := s.toks) (fun _ _ q => Heap.get?_push_of_some _ q) (Nat.le_refl _)
    (dicF_ok ⟨Nat.zero_le _, beq_eq_false_iff_ne.mpr (Ne.symm (Nat.ne_of_lt I.big)), _, #[], 0, Heap.get?_push_size _ rfl, ⟨rfl, rfl, rfl⟩, rfl, .nil, rfl⟩), rfl, h _ _ (I.hok.fresh (Nat.le_refl _))⟩⟩
theorem sf_dl0 : SF RX Γ C gv K W (.Dict [] [] pos) fun e => .ok (.dic []) e := by
  refine ⟨tDNew0, fun X ok hK => ⟨pe_dnew0, fun i y py spos hy hl hsw => ps_set (by rw [ok.hN]; exact ok.nd) hy hl.1 pe_dnew0 rfl hl.2⟩, fun B e σ H Q rs h => ?_⟩
  intro p ob hp
  exact h p [] _ hp (rs.withW .dic hp) (rs.laid hp).2 ⟨ob, upd_same⟩ ⟨dok_nil0, .nil⟩
def dl1F (fa fb : Env → R D) : Env → R D := fun e => (fa e).bind fun x e => (fb e).bind fun y e => if fitD x [] = true then .ok (.dic [x, y]) e else .no
theorem dl1_new {fa fb : Env → R D} {e : Env} : isNewR (dl1F fa fb e) := fun d e' q => by
  unfold dl1F at q
  cases h1 : fa e with
  | ok x e1 =>
    rw [h1] at q
    replace q : ((fb e1).bind fun y e => if fitD x [] = true then R.ok (D.dic [x, y]) e else .no) = .ok d e' := q
    cases h2 : fb e1 with
    | ok y e2 =>
      rw [h2] at q
      replace q : (if fitD x [] = true then R.ok (D.dic [x, y]) e2 else .no) = .ok d e' := q
      split at q
      · cases q; exact .inr ⟨_, rfl⟩
      · cases q
    | ex _ _ => rw [h2] at q; cases q
    | no => rw [h2] at q; cases q
  | ex _ _ => rw [h1] at q; cases q
  | no => rw [h1] at q; cases q
/-- the new dict stands while its key and value are evaluated -/
theorem sf_dl1 (ha : SE RX Γ C gv K W x fa) (hb : SE RX Γ C gv K W y fb) : SF RX Γ C gv K W (.Dict [some x] [y] pos) (dl1F fa fb) := by
  obtain ⟨ta, pa, qa⟩ := ha
  obtain ⟨tb, pb, qb⟩ := hb
  refine ⟨tDlit1 K ta tb, fun X ok hK => by subst hK; exact ⟨pe_dlit1 ok.hu (pa X ok rfl) (pb X ok rfl), fun i y py spos hy hl hsw => ps_set (by rw [ok.hN]; exact ok.nd) hy hl.1 (pe_dlit1 ok.hu (pa X ok rfl) (pb X ok rfl)) rfl hl.2⟩, fun B e σ H Q rs h => ?_⟩
  intro p ob hp
  have rs0 := rs.withW (u := .ext (DicF p [] ob)) .dic hp
  have st0 := (rs.laid (o := .ext (DicF p [] ob)) hp).2
  replace h : FPost RX K W B e σ H ((fa e).bind fun x e => (fb e).bind fun y e => if fitD x [] = true then R.ok (D.dic [x, y]) e else .no) Q := h
  refine qa (With B p) e σ _ _ rs0 ?_
  cases h1 : fa e with
  | no => rw [h1] at h; exact h.elim
  | ex ev e1 => rw [h1] at h; exact fun c dd H' rs' st' rx => h c dd H' rs'.less (st0.trans st') rx
  | ok d1 e1 =>
    rw [h1] at h
    intro v1 H1 rs1 st1 r1
    refine qb (With B p) e1 σ H1 _ rs1 ?_
    replace h : FPost RX K W B e σ H ((fb e1).bind fun y e => if fitD d1 [] = true then R.ok (D.dic [d1, y]) e else .no) Q := h
    cases h2 : fb e1 with
    | no => rw [h2] at h; exact h.elim
    | ex ev e2 => rw [h2] at h; exact fun c dd H' rs' st' rx => h c dd H' rs'.less ((st0.trans st1).trans st') rx
    | ok d2 e2 =>
      rw [h2] at h
      intro v2 H2 rs2 st2 r2
      replace h : FPost RX K W B e σ H (if fitD d1 [] = true then R.ok (D.dic [d1, d2]) e2 else .no) Q := h
      split at h
      case isFalse => exact h.elim
      rename_i hf
      have s12 := (st0.trans st1).trans st2
      have k0 : (upd H p (.ext (DicF p [] ob))) p = some (.ext (DicF p [] ob)) := upd_same
      have k1 : H1 p = some (.ext (DicF p [] ob)) := st1.fr p _ k0 .ext (rs0.notOwn (.inr rfl))
      have k2 : H2 p = some (.ext (DicF p [] ob)) := st2.fr p _ k1 .ext (rs1.notOwn (.inr rfl))
      refine ⟨k2, Of (With B p) e2 σ, d1, d2, hf, rs1.keep st2 r1, r2, fun ob' vs' ok' r' => ?_⟩
      obtain ⟨r3, _, s3⟩ := rs2.otherW (u := .ext (DicF p (ent [d1, d2] vs') ob')) (.inr rfl) .dic
      refine h p vs' _ hp r3 ⟨fun a o q tt n => ?_, fun a q => s3 a (s12.al a q), fun a q => s12.sub a q⟩ ⟨ob', upd_same⟩ ⟨ok', Rps.otherW rs2 (.inr rfl) r'⟩
      have na : a ≠ p := fun z => by rw [z, hp] at q; cases q
      rw [upd_ne na]
      exact s12.fr a o q tt n
end
end Ev
set_option Elab.async false
set_option linter.all false
set_option maxRecDepth 100000
set_option maxHeartbeats 4000000
set_option autoImplicit false
/-! Ev10: every expression. -/
namespace Ev
open PySem PySem.Spec PyProof.Rows L2
variable [TabT]
section
variable {RX : RXT} {C : Ctx} {gv : Nat → V} {K : PySem.W.Frag}
def MainE (RX : RXT) (C : Ctx) (gv : Nat → V) (K : PySem.W.Frag) (a : Ex) : Prop :=
  (∀ (Γ : Gam) (W : WX) (ex : PySem.Expr), St0 Γ C gv K → mE Γ a ex = true → SE RX Γ C gv K W ex (den C a) ∧ (tE a = true → ST RX Γ C gv K W ex (den C a))) ∧
  (∀ (Γ : Gam) (W : WX) (es : List PySem.Expr), St0 Γ C gv K → mL Γ a es = true → SL RX Γ C gv K W es (denL C a)) ∧
  ∀ (Γ : Gam) (W : WX) (tg ex : PySem.Expr), St0 Γ C gv K → mI Γ tg a ex = true → SI RX Γ C gv K W tg ex (denL C a)
theorem noneB_i {a : Ex} (h : noneB a = true) : a = .lit .non := by
  cases a with
  | lit d => cases d <;> first | rfl | cases h
  | _ => cases h
theorem yesB_i {a : Ex} (h : yesB a = true) : a = .lit (.bl true) := by
  cases a with
  | lit d => cases d with
    | bl b => cases b <;> first | rfl | cases h
    | _ => cases h
  | _ => cases h
theorem not_t {b : Bool} (h : (!b) = true) : b = false := by cases b <;> first | rfl | cases h
theorem part_ok {Γ : Gam} {W : WX} {a : Ex} {o : Option PySem.Expr} (g0 : St0 Γ C gv K) (ih : MainE RX C gv K a) (h : (match o with
    | none => noneB a
    | some z => !noneB a && mE Γ a z) = true) : SP1 RX Γ C gv K W o fun e => (den C a e).bind fun l e => R.of (partR (noneB a) l) e := by
  cases o with
  | none =>
    cases noneB_i h
    exact sp_none
  | some z =>
    obtain ⟨h1, h2⟩ := and2 h
    have h1 : noneB a = false := not_t h1
    rw [h1]
    exact sp_some (ih.1 Γ W z g0 h2).1
theorem main_ok (a : Ex) : MainE RX C gv K a := by
  induction a with
  | lit d =>
    refine ⟨fun Γ W ex g0 h => ?_, fun Γ W es g0 h => (by cases h), fun Γ W tg ex g0 h => (by cases h)⟩
    obtain ⟨c, n, p, rfl, h⟩ := asCon_i h
    exact ⟨se_lit h, fun _ => (se_lit h).test fun _ _ => rfl⟩
  | var i =>
    refine ⟨fun Γ W ex g0 h => ?_, fun Γ W es g0 h => (by cases h), fun Γ W tg ex g0 h => (by cases h)⟩
    obtain ⟨x, p, rfl, h⟩ := asName_i h
    obtain ⟨h1, h2⟩ := and2 h
    exact ⟨se_var (of_decide_eq_true h1) h2, fun _ => (se_var (of_decide_eq_true h1) h2).test fun _ _ => rfl⟩
  | gval g =>
    refine ⟨fun Γ W ex g0 h => ?_, fun Γ W es g0 h => (by cases h), fun Γ W tg ex g0 h => (by cases h)⟩
    obtain ⟨x, p, rfl, h⟩ := asName_i h
    obtain ⟨h1, h2⟩ := and2 h
    exact ⟨se_gval g0 (of_decide_eq_true h1) h2, fun _ => (se_gval g0 (of_decide_eq_true h1) h2).test fun _ _ => rfl⟩
  | emp =>
    refine ⟨fun Γ W ex g0 h => ?_, fun Γ W es g0 h => (by cases h), fun Γ W tg ex g0 h => (by cases h)⟩
    obtain ⟨p, rfl⟩ := isEmpX_i h
    have q : SE RX Γ C gv K W (.Dict [] [] p) (den C .emp) := se_emp
    exact ⟨q, fun _ => q.test fun _ _ => rfl⟩
  | tup a ih =>
    refine ⟨fun Γ W ex g0 h => ?_, fun Γ W es g0 h => (by cases h), fun Γ W tg ex g0 h => (by cases h)⟩
    obtain ⟨x, n, p, rfl, h⟩ := asTup_i h
    have q : SE RX Γ C gv K W (.Tuple x n p) (den C (.tup a)) := se_tup (ih.2.1 Γ W x g0 h)
    exact ⟨q, fun _ => q.test fun _ _ => rfl⟩
  | lst a ih =>
    refine ⟨fun Γ W ex g0 h => ?_, fun Γ W es g0 h => (by cases h), fun Γ W tg ex g0 h => (by cases h)⟩
    obtain ⟨x, p, rfl, h⟩ := asLst_i h
    have q : SE RX Γ C gv K W (.List x p) (den C (.lst a)) := se_lst (ih.2.1 Γ W x g0 h)
    exact ⟨q, fun _ => q.test fun _ _ => rfl⟩
  | bin o a b iha ihb =>
    refine ⟨fun Γ W ex g0 h => ?_, fun Γ W es g0 h => (by cases h), fun Γ W tg ex g0 h => (by cases h)⟩
    obtain ⟨x, p, y, pos, rfl, h⟩ := asBin_i h
    obtain ⟨h0, h⟩ := and2 h
    obtain ⟨h1, h2⟩ := and2 h
    cases of_decide_eq_true h0
    have q : SE RX Γ C gv K W (.BinOp x (opOf o) y pos) (den C (.bin o a b)) := se_bin (iha.1 Γ W x g0 h1).1 (ihb.1 Γ W y g0 h2).1
    exact ⟨q, fun _ => q.test fun _ _ => rfl⟩
  | neg a ih =>
    refine ⟨fun Γ W ex g0 h => ?_, fun Γ W es g0 h => (by cases h), fun Γ W tg ex g0 h => (by cases h)⟩
    obtain ⟨p, x, pos, rfl, h⟩ := asUn_i h
    obtain ⟨h0, h⟩ := and2 h
    cases of_decide_eq_true h0
    have q : SE RX Γ C gv K W (.UnaryOp .USub x pos) (den C (.neg a)) := se_neg (ih.1 Γ W x g0 h).1
    exact ⟨q, fun _ => q.test fun _ _ => rfl⟩
  | cmp o a b iha ihb =>
    refine ⟨fun Γ W ex g0 h => ?_, fun Γ W es g0 h => (by cases h), fun Γ W tg ex g0 h => (by cases h)⟩
    obtain ⟨x, ps, ys, pos, rfl, h⟩ := asCmp_i h
    obtain ⟨p, rfl, h⟩ := as1_i h
    obtain ⟨y, rfl, h⟩ := as1_i h
    obtain ⟨h0, h⟩ := and2 h
    obtain ⟨h1, h⟩ := and2 h
    obtain ⟨h2, h3⟩ := and2 h
    cases of_decide_eq_true h0
    have q := se_cmp (pos := pos) (o := o) (not_t h1) (iha.1 Γ W x g0 h2).1 (ihb.1 Γ W y g0 h3).1
    exact ⟨q.1, fun _ => q.2⟩
  | cmp2 o o2 a b c iha ihb ihc =>
    refine ⟨fun Γ W ex g0 h => ?_, fun Γ W es g0 h => (by cases h), fun Γ W tg ex g0 h => (by cases h)⟩
    obtain ⟨x, ps, ys, pos, rfl, h⟩ := asCmp_i h
    obtain ⟨p, r, rfl, h⟩ := as2_i h
    obtain ⟨y, z, rfl, h⟩ := as2_i h
    obtain ⟨h0, h⟩ := and2 h
    obtain ⟨h00, h⟩ := and2 h
    obtain ⟨h1, h⟩ := and2 h
    obtain ⟨h2, h⟩ := and2 h
    obtain ⟨h3, h4⟩ := and2 h
    cases of_decide_eq_true h0
    cases of_decide_eq_true h00
    have q := se_cmp2 (pos := pos) (o := o) (p := o2) (not_t h1) (iha.1 Γ W x g0 h2).1 (ihb.1 Γ W y g0 h3).1 (ihc.1 Γ W z g0 h4).1
    exact ⟨q.1, fun _ => q.2⟩
  | and a b iha ihb =>
    refine ⟨fun Γ W ex g0 h => ?_, fun Γ W es g0 h => (by cases h), fun Γ W tg ex g0 h => (by cases h)⟩
    obtain ⟨o, es, pos, rfl, h⟩ := asBoo_i h
    obtain ⟨h0, h⟩ := and2 h
    cases of_decide_eq_true h0
    obtain ⟨x, r, rfl, h⟩ := asC_i h
    obtain ⟨h1, h⟩ := and2 h
    obtain ⟨y, r2, rfl, h⟩ := asC_i h
    cases r2 with
    | nil =>
      exact ⟨se_and (iha.1 Γ W x g0 h1).1 (se_one (ihb.1 Γ W y g0 h).1), fun k => by
        obtain ⟨k1, k2⟩ := and2 k
        exact (sw_and ((iha.1 Γ W x g0 h1).2 k1) (sw_and1 ((ihb.1 Γ W y g0 h).2 k2))).st⟩
    | cons z r3 =>
      exact ⟨se_and (iha.1 Γ W x g0 h1).1 (ihb.1 Γ W _ g0 h).1, fun k => by
        obtain ⟨k1, k2⟩ := and2 k
        exact (sw_and ((iha.1 Γ W x g0 h1).2 k1) (sw_boo ((ihb.1 Γ W _ g0 h).2 k2))).st⟩
  | or a b iha ihb =>
    refine ⟨fun Γ W ex g0 h => ?_, fun Γ W es g0 h => (by cases h), fun Γ W tg ex g0 h => (by cases h)⟩
    obtain ⟨o, es, pos, rfl, h⟩ := asBoo_i h
    obtain ⟨h0, h⟩ := and2 h
    cases of_decide_eq_true h0
    obtain ⟨x, r, rfl, h⟩ := asC_i h
    obtain ⟨h1, h⟩ := and2 h
    obtain ⟨y, r2, rfl, h⟩ := asC_i h
    cases r2 with
    | nil =>
      exact ⟨se_or (iha.1 Γ W x g0 h1).1 (se_one (ihb.1 Γ W y g0 h).1), fun k => by
        obtain ⟨k1, k2⟩ := and2 k
        exact (sw_or ((iha.1 Γ W x g0 h1).2 k1) (sw_or1 ((ihb.1 Γ W y g0 h).2 k2))).st⟩
    | cons z r3 =>
      exact ⟨se_or (iha.1 Γ W x g0 h1).1 (ihb.1 Γ W _ g0 h).1, fun k => by
        obtain ⟨k1, k2⟩ := and2 k
        exact (sw_or ((iha.1 Γ W x g0 h1).2 k1) (sw_boo ((ihb.1 Γ W _ g0 h).2 k2))).st⟩
  | not a ih =>
    refine ⟨fun Γ W ex g0 h => ?_, fun Γ W es g0 h => (by cases h), fun Γ W tg ex g0 h => (by cases h)⟩
    obtain ⟨p, x, pos, rfl, h⟩ := asUn_i h
    obtain ⟨h0, h⟩ := and2 h
    cases of_decide_eq_true h0
    exact ⟨se_not (ih.1 Γ W x g0 h).1, fun k => st_not ((ih.1 Γ W x g0 h).2 k)⟩
  | ite c a b ihc iha ihb =>
    refine ⟨fun Γ W ex g0 h => ?_, fun Γ W es g0 h => (by cases h), fun Γ W tg ex g0 h => (by cases h)⟩
    obtain ⟨x, y, z, pos, rfl, h⟩ := asIf_i h
    obtain ⟨h0, h⟩ := and2 h
    obtain ⟨h1, h⟩ := and2 h
    obtain ⟨h2, h3⟩ := and2 h
    exact ⟨se_ite ((ihc.1 Γ W x g0 h1).2 h0) (iha.1 Γ W y g0 h2).1 (ihb.1 Γ W z g0 h3).1, fun k => by cases k⟩
  | call f io a ih =>
    refine ⟨fun Γ W ex g0 h => ?_, fun Γ W es g0 h => (by cases h), fun Γ W tg ex g0 h => (by cases h)⟩
    obtain ⟨x, q, es, pos, rfl, k⟩ := asCall_i h
    obtain ⟨h0, k0⟩ := and2 k
    obtain ⟨h1, k1⟩ := and2 k0
    cases hf : Γ.fns[f]? with
    | none => rw [hf] at h1; cases h1
    | some fi =>
      rw [hf] at h1
      obtain ⟨h2, h3⟩ := and2 h1
      have hx : fi.name = x := of_decide_eq_true h2
      rw [← hx] at h0 ⊢
      cases io with
      | none =>
        obtain ⟨ey, er, he, k2⟩ := asC_i k1
        rw [he]
        obtain ⟨k3, k4⟩ := and2 k2
        have s : SE RX Γ C gv K W (.Call (.Name fi.name q) (ey :: er) [] pos) (den C (.call f none a)) := se_call g0 hf h0 k3 (ih.2.1 Γ W _ g0 k4)
        exact ⟨s, fun _ => s.test fun _ _ => rfl⟩
      | some i =>
        obtain ⟨ey, er, he, k2⟩ := asC_i k1
        rw [he]
        obtain ⟨k3, k4⟩ := and2 k2
        obtain ⟨k5, k6⟩ := and2 k4
        obtain ⟨n, pn, hey, k7⟩ := asName_i k6
        rw [hey]
        obtain ⟨k8, k9⟩ := and2 k7
        have s : SE RX Γ C gv K W (.Call (.Name fi.name q) (.Name n pn :: er) [] pos) (den C (.call f (some i) a)) := se_callIo g0 hf h0 (of_decide_eq_true k8) k9 k3 (ih.2.1 Γ W _ g0 k5)
        exact ⟨s, fun _ => s.test fun _ _ => rfl⟩
  | ix a b iha ihb =>
    refine ⟨fun Γ W ex g0 h => ?_, fun Γ W es g0 h => (by cases h), fun Γ W tg ex g0 h => (by cases h)⟩
    obtain ⟨x, y, pos, rfl, h⟩ := asSub_i h
    obtain ⟨h0, h⟩ := and2 h
    obtain ⟨h1, h2⟩ := and2 h
    have s : SE RX Γ C gv K W (.Subscript x y pos) (den C (.ix a b)) := se_ix (not_t h0) (iha.1 Γ W x g0 h1).1 (ihb.1 Γ W y g0 h2).1
    exact ⟨s, fun _ => s.test fun _ _ => rfl⟩
  | oix i b ih =>
    refine ⟨fun Γ W ex g0 h => ?_, fun Γ W es g0 h => (by cases h), fun Γ W tg ex g0 h => (by cases h)⟩
    obtain ⟨x, y, pos, rfl, h⟩ := asSub_i h
    obtain ⟨h0, h⟩ := and2 h
    obtain ⟨h1, h⟩ := and2 h
    obtain ⟨n, pn, rfl, h⟩ := asName_i h
    obtain ⟨k3, k4⟩ := and2 h
    have s : SE RX Γ C gv K W (.Subscript (.Name n pn) y pos) (den C (.oix i b)) := se_oix (of_decide_eq_true k3) k4 (not_t h0) (ih.1 Γ W y g0 h1).1
    exact ⟨s, fun _ => s.test fun _ _ => rfl⟩
  | sl a lo hi iha ihl ihh =>
    refine ⟨fun Γ W ex g0 h => ?_, fun Γ W es g0 h => (by cases h), fun Γ W tg ex g0 h => (by cases h)⟩
    obtain ⟨x, y, pos, rfl, h⟩ := asSub_i h
    obtain ⟨h1, h⟩ := and2 h
    obtain ⟨l, u, p2, rfl, h⟩ := asSl_i h
    obtain ⟨h2, h3⟩ := and2 h
    have s : SE RX Γ C gv K W (.Subscript x (.Slice l u none p2) pos) (den C (.sl a lo hi)) := se_sl (iha.1 Γ W x g0 h1).1 (part_ok g0 ihl h2) (part_ok g0 ihh h3)
    exact ⟨s, fun _ => s.test fun _ _ => rfl⟩
  | prim p a ih =>
    refine ⟨fun Γ W ex g0 h => ?_, fun Γ W es g0 h => (by cases h), fun Γ W tg ex g0 h => (by cases h)⟩
    obtain ⟨x, q, es, pos, rfl, k⟩ := asCall_i h
    obtain ⟨h0, k1⟩ := and2 k
    obtain ⟨h1, k2⟩ := and2 k1
    obtain ⟨h2, k3⟩ := and2 k2
    obtain ⟨y, rfl, k4⟩ := as1_i k3
    cases of_decide_eq_true h1
    have hs : isStar y = false := by
      cases a with
      | cons a1 a2 =>
        obtain ⟨_, _, e, k5⟩ := asC_i k4
        cases e
        exact not_t (and2 k5).1
      | _ => cases k4
    have s : SE RX Γ C gv K W (.Call (.Name p.name q) [y] [] pos) (den C (.prim p a)) := se_prim h2 h0 hs (ih.2.1 Γ W _ g0 k4)
    exact ⟨s, fun _ => s.test fun _ _ => rfl⟩
  | prim2 p a b iha ihb =>
    refine ⟨fun Γ W ex g0 h => ?_, fun Γ W es g0 h => (by cases h), fun Γ W tg ex g0 h => (by cases h)⟩
    obtain ⟨x, q, es, pos, rfl, h⟩ := asCall_i h
    obtain ⟨h0, h⟩ := and2 h
    obtain ⟨h1, h⟩ := and2 h
    obtain ⟨y, z, rfl, h⟩ := as2_i h
    obtain ⟨h2, h⟩ := and2 h
    obtain ⟨h3, h⟩ := and2 h
    obtain ⟨h4, h5⟩ := and2 h
    cases of_decide_eq_true h1
    have s : SE RX Γ C gv K W (.Call (.Name p.name q) [y, z] [] pos) (den C (.prim2 p a b)) := se_prim2 h0 (not_t h2) (not_t h3) (iha.1 Γ W y g0 h4).1 (ihb.1 Γ W z g0 h5).1
    exact ⟨s, fun _ => s.test fun _ _ => rfl⟩
  | rev a ih =>
    refine ⟨fun Γ W ex g0 h => ?_, fun Γ W es g0 h => (by cases h), fun Γ W tg ex g0 h => (by cases h)⟩
    obtain ⟨x, y, pos, rfl, h⟩ := asSub_i h
    obtain ⟨h0, h1⟩ := and2 h
    obtain ⟨k, p1, p2, p3, rfl⟩ := isRevSl_i h0
    have s : SE RX Γ C gv K W (.Subscript x (.Slice none none (some (.UnaryOp .USub (.Constant (.int 1) k p1) p2)) p3) pos) (den C (.rev a)) := se_rev (ih.1 Γ W x g0 h1).1
    exact ⟨s, fun _ => s.test fun _ _ => rfl⟩
  | rev2 a ih =>
    refine ⟨fun Γ W ex g0 h => ?_, fun Γ W es g0 h => (by cases h), fun Γ W tg ex g0 h => (by cases h)⟩
    obtain ⟨x, y, pos, rfl, h⟩ := asSub_i h
    obtain ⟨h0, h1⟩ := and2 h
    obtain ⟨k, k0, p0, p1, p2, p3, rfl⟩ := isRev2Sl_i h0
    have s : SE RX Γ C gv K W (.Subscript x (.Slice (some (.Constant (.int 1) k0 p0)) none (some (.UnaryOp .USub (.Constant (.int 1) k p1) p2)) p3) pos) (den C (.rev2 a)) := se_rev2 (ih.1 Γ W x g0 h1).1
    exact ⟨s, fun _ => s.test fun _ _ => rfl⟩
  | frm k a ih =>
    refine ⟨fun Γ W ex g0 h => ?_, fun Γ W es g0 h => (by cases h), fun Γ W tg ex g0 h => (by cases h)⟩
    obtain ⟨x, q, es, pos, rfl, h⟩ := asCall_i h
    obtain ⟨h0, h⟩ := and2 h
    obtain ⟨y, rfl, h⟩ := as1_i h
    obtain ⟨z, q2, fs, p2, rfl, h⟩ := asCall_i h
    obtain ⟨h1, h⟩ := and2 h
    obtain ⟨w, rfl, h⟩ := as1_i h
    obtain ⟨h2, h⟩ := and2 h
    obtain ⟨h3, h4⟩ := and2 h
    cases k with
    | lset =>
      obtain ⟨e1, e2⟩ := and2 h4
      cases of_decide_eq_true e1
      cases of_decide_eq_true e2
      have s : SE RX Γ C gv K W (.Call (.Name "len" q) [.Call (.Name "set" q2) [w] [] p2] [] pos) (den C (.frm .lset a)) := se_lset h0 h1 (not_t h2) (ih.1 Γ W w g0 h3).1
      exact ⟨s, fun _ => s.test fun _ _ => rfl⟩
    | lrng =>
      obtain ⟨e1, e2⟩ := and2 h4
      cases of_decide_eq_true e1
      cases of_decide_eq_true e2
      have s : SE RX Γ C gv K W (.Call (.Name "list" q) [.Call (.Name "range" q2) [w] [] p2] [] pos) (den C (.frm .lrng a)) := se_lrng h0 h1 (not_t h2) (ih.1 Γ W w g0 h3).1
      exact ⟨s, fun _ => s.test fun _ _ => rfl⟩
    | sset =>
      obtain ⟨e1, e2⟩ := and2 h4
      cases of_decide_eq_true e1
      cases of_decide_eq_true e2
      have s : SE RX Γ C gv K W (.Call (.Name "sorted" q) [.Call (.Name "set" q2) [w] [] p2] [] pos) (den C (.frm .sset a)) := se_sset h0 h1 (not_t h2) (ih.1 Γ W w g0 h3).1
      exact ⟨s, fun _ => s.test fun _ _ => rfl⟩
    | trng =>
      obtain ⟨e1, e2⟩ := and2 h4
      cases of_decide_eq_true e1
      cases of_decide_eq_true e2
      have s : SE RX Γ C gv K W (.Call (.Name "tuple" q) [.Call (.Name "range" q2) [w] [] p2] [] pos) (den C (.frm .trng a)) := se_trng h0 h1 (not_t h2) (ih.1 Γ W w g0 h3).1
      exact ⟨s, fun _ => s.test fun _ _ => rfl⟩
  | isi p a ih =>
    refine ⟨fun Γ W ex g0 h => ?_, fun Γ W es g0 h => (by cases h), fun Γ W tg ex g0 h => (by cases h)⟩
    obtain ⟨x, q, es, pos, rfl, h⟩ := asCall_i h
    obtain ⟨h0, h⟩ := and2 h
    obtain ⟨h1, h⟩ := and2 h
    obtain ⟨y, z, rfl, h⟩ := as2_i h
    obtain ⟨h2, h⟩ := and2 h
    obtain ⟨h3, h4⟩ := and2 h
    cases of_decide_eq_true h1
    have s : SE RX Γ C gv K W (.Call (.Name "isinstance" q) [y, z] [] pos) (den C (.isi p a)) := se_isi h0 (not_t h2) h4 (ih.1 Γ W _ g0 h3).1
    exact ⟨s, fun _ => s.test fun _ _ => rfl⟩
  | rank i a ih =>
    refine ⟨fun Γ W ex g0 h => ?_, fun Γ W es g0 h => (by cases h), fun Γ W tg ex g0 h => (by cases h)⟩
    obtain ⟨x, y, sc, f, g, p1, p2, p3, pp, py, pb, pl, pk, pc, p4, rfl, h⟩ := asRank_i h
    obtain ⟨h1, h⟩ := and2 h
    obtain ⟨h2, h⟩ := and2 h
    obtain ⟨h3, h⟩ := and2 h
    obtain ⟨h4, h⟩ := and2 h
    obtain ⟨h5, h⟩ := and2 h
    obtain ⟨h6, h⟩ := and2 h
    obtain ⟨h7, h⟩ := and2 h
    obtain ⟨h8, h⟩ := and2 h
    obtain ⟨h9, h⟩ := and2 h
    obtain ⟨h10, h11⟩ := and2 h
    cases of_decide_eq_true h1
    cases of_decide_eq_true h2
    have s : SE RX Γ C gv K W (.Call (.Name "sorted" p1) [.Call (.Name "range" p2) [x] [] p3] [⟨some "key", .Lambda (onePar "at" pp) (.Subscript (.Name y py) (.Name "at" pb) pl) sc pk, pc⟩] p4) (den C (.rank i a)) := se_rank h3 h4 (of_decide_eq_true h5) (of_decide_eq_true h6) (not_t h7) h8 h9 (not_t h10) (ih.1 Γ W x g0 h11).1
    exact ⟨s, fun _ => s.test fun _ _ => rfl⟩
  | olen i =>
    refine ⟨fun Γ W ex g0 h => ?_, fun Γ W es g0 h => (by cases h), fun Γ W tg ex g0 h => (by cases h)⟩
    obtain ⟨x, q, es, pos, rfl, h⟩ := asCall_i h
    obtain ⟨h0, h⟩ := and2 h
    obtain ⟨h1, h⟩ := and2 h
    obtain ⟨y, rfl, h⟩ := as1_i h
    obtain ⟨n, pn, rfl, h⟩ := asName_i h
    obtain ⟨k3, k4⟩ := and2 h
    cases of_decide_eq_true h0
    have s : SE RX Γ C gv K W (.Call (.Name "len" q) [.Name n pn] [] pos) (den C (.olen i)) := se_olen h1 (of_decide_eq_true k3) k4
    exact ⟨s, fun _ => s.test fun _ _ => rfl⟩
  | lc vs t src cond elt ihs ihc ihe =>
    refine ⟨fun Γ W ex g0 h => ?_, fun Γ W es g0 h => (by cases h), fun Γ W tg ex g0 h => (by cases h)⟩
    obtain ⟨x, tg, it, ifs, scope, pos, rfl, h⟩ := asComp_i h
    obtain ⟨h0, h⟩ := and2 h
    obtain ⟨h1, h⟩ := and2 h
    obtain ⟨h2, h⟩ := and2 h
    obtain ⟨h3, h⟩ := and2 h
    obtain ⟨h4, h⟩ := and2 h
    obtain ⟨h5, h6⟩ := and2 h
    have hc : SC RX (Γ.blk scope) C gv K W0 ifs (den C cond) := by
      cases ifs with
      | nil =>
        cases yesB_i h6
        exact sc_nil
      | cons c r =>
        obtain ⟨c', e, h6⟩ := as1_i h6
        rw [e]
        obtain ⟨k1, k2⟩ := and2 h6
        exact sc_one ((ihc.1 (Γ.blk scope) W0 c' g0.blk k1).2 k2)
    have s : SE RX Γ C gv K W (.ListComp x [⟨tg, it, ifs, 0⟩] scope pos) (den C (.lc vs t src cond elt)) :=
      (sf_lc h0 (not_t h1) h4 (ihs.2.2 Γ W tg it g0 h2) ((tg_ok t).1 tg h3) hc (ihe.1 (Γ.blk scope) W0 x g0.blk h5).1).se fun _ => lcF_lst
    exact ⟨s, fun _ => s.test fun _ _ => rfl⟩
  | lc2 vs t src cond vs1 t1 src1 cond1 elt ihs ihc ihs1 ihc1 ihe =>
    refine ⟨fun Γ W ex g0 h => ?_, fun Γ W es g0 h => (by cases h), fun Γ W tg ex g0 h => (by cases h)⟩
    obtain ⟨x, tg, it, ifs, tg1, it1, ifs1, scope, pos, rfl, h⟩ := asComp2_i h
    obtain ⟨h0, h⟩ := and2 h
    obtain ⟨h1, h⟩ := and2 h
    obtain ⟨h1', h⟩ := and2 h
    obtain ⟨h2, h⟩ := and2 h
    obtain ⟨h3, h⟩ := and2 h
    obtain ⟨h4, h⟩ := and2 h
    obtain ⟨k2, h⟩ := and2 h
    obtain ⟨k3, h⟩ := and2 h
    obtain ⟨k4, h⟩ := and2 h
    obtain ⟨k5, h⟩ := and2 h
    obtain ⟨h5, h⟩ := and2 h
    obtain ⟨h6, h7⟩ := and2 h
    have hc : SC RX (Γ.blk scope) C gv K W0 ifs (den C cond) := by
      cases ifs with
      | nil =>
        cases yesB_i h6
        exact sc_nil
      | cons c r =>
        obtain ⟨c', e, h6⟩ := as1_i h6
        rw [e]
        obtain ⟨k1, k2⟩ := and2 h6
        exact sc_one ((ihc.1 (Γ.blk scope) W0 c' g0.blk k1).2 k2)
    have hc1 : SC RX (Γ.blk scope) C gv K W0 ifs1 (den C cond1) := by
      cases ifs1 with
      | nil =>
        cases yesB_i h7
        exact sc_nil
      | cons c r =>
        obtain ⟨c', e, h7⟩ := as1_i h7
        rw [e]
        obtain ⟨k1, k2⟩ := and2 h7
        exact sc_one ((ihc1.1 (Γ.blk scope) W0 c' g0.blk k1).2 k2)
    have s : SE RX Γ C gv K W (.ListComp x [⟨tg, it, ifs, 0⟩, ⟨tg1, it1, ifs1, 0⟩] scope pos) (den C (.lc2 vs t src cond vs1 t1 src1 cond1 elt)) :=
      (sf_lc2 h0 (not_t h1) (not_t h1') h4 k4 k5 (ihs.2.2 Γ W tg it g0 h2) ((tg_ok t).1 tg h3) hc (ihs1.2.2 (Γ.blk scope) W0 tg1 it1 g0.blk k2) ((tg_ok t1).1 tg1 k3) hc1 (ihe.1 (Γ.blk scope) W0 x g0.blk h5).1).se fun _ => lc2F_lst
    exact ⟨s, fun _ => s.test fun _ _ => rfl⟩
  | lend i a ih =>
    refine ⟨fun Γ W ex g0 h => ?_, fun Γ W es g0 h => (by cases h), fun Γ W tg ex g0 h => (by cases h)⟩
    obtain ⟨h1, h2⟩ := and2 (show (slB a && mE Γ a ex) = true from h)
    exact ⟨se_lend (den_kp C a h1).1 (ih.1 Γ W ex g0 h2).1, fun k => st_lend (den_kp C a h1).1 ((ih.1 Γ W ex g0 h2).2 k)⟩
  | skeys a ih =>
    refine ⟨fun Γ W ex g0 h => ?_, fun Γ W es g0 h => (by cases h), fun Γ W tg ex g0 h => (by cases h)⟩
    obtain ⟨x, q, es, pos, rfl, h⟩ := asCall_i h
    obtain ⟨h0, h⟩ := and2 h
    obtain ⟨h1, h⟩ := and2 h
    obtain ⟨y, rfl, h⟩ := as1_i h
    obtain ⟨n, p, ap, cp, rfl, h2, h3⟩ := asMeth_i h
    cases of_decide_eq_true h0
    have s := se_skeys (pos := pos) (q := q) h1 h2 (ih.1 Γ W (.Name n p) g0 h3).1
    exact ⟨s, fun _ => s.test fun _ _ => rfl⟩
  | idx a b iha ihb =>
    refine ⟨fun Γ W ex g0 h => ?_, fun Γ W es g0 h => (by cases h), fun Γ W tg ex g0 h => (by cases h)⟩
    obtain ⟨x, ap, cp, y, rfl, h1, hz, h⟩ := asMethX1_i h
    obtain ⟨h2, h⟩ := and2 h
    obtain ⟨h3, h4⟩ := and2 h
    have s := se_idx hz (not_t h2) h1 (iha.1 Γ W x g0 h3).1 (ihb.1 Γ W y g0 h4).1
    exact ⟨s, fun _ => s.test fun _ _ => rfl⟩
  | trng2 a b iha ihb =>
    refine ⟨fun Γ W ex g0 h => ?_, fun Γ W es g0 h => (by cases h), fun Γ W tg ex g0 h => (by cases h)⟩
    obtain ⟨x, q, es, pos, rfl, h⟩ := asCall_i h
    obtain ⟨h0, h⟩ := and2 h
    obtain ⟨h1, h⟩ := and2 h
    obtain ⟨y, rfl, h⟩ := as1_i h
    obtain ⟨z, q2, fs, p2, rfl, h⟩ := asCall_i h
    obtain ⟨h2, h⟩ := and2 h
    obtain ⟨h3, h⟩ := and2 h
    obtain ⟨w, u, rfl, h⟩ := as2_i h
    obtain ⟨h4, h⟩ := and2 h
    obtain ⟨h5, h⟩ := and2 h
    obtain ⟨h6, h7⟩ := and2 h
    cases of_decide_eq_true h0
    cases of_decide_eq_true h2
    have s : SE RX Γ C gv K W (.Call (.Name "tuple" q) [.Call (.Name "range" q2) [w, u] [] p2] [] pos) (den C (.trng2 a b)) := se_trng2 h1 h3 (not_t h4) (not_t h5) (iha.1 Γ W w g0 h6).1 (ihb.1 Γ W u g0 h7).1
    exact ⟨s, fun _ => s.test fun _ _ => rfl⟩
  | lkeys a ih => exact ⟨fun Γ W ex g0 h => (by cases h), fun Γ W es g0 h => (by cases h), fun Γ W tg ex g0 h => (by cases h)⟩
  | keys a ih =>
    refine ⟨fun Γ W ex g0 h => (by cases h), fun Γ W es g0 h => (by cases h), fun Γ W tg ex g0 h => ?_⟩
    obtain ⟨n, p, ap, cp, rfl, h1, h2⟩ := asMeth_i h
    exact si_keys h1 (ih.1 Γ W (.Name n p) g0 h2).1
  | vals a ih =>
    refine ⟨fun Γ W ex g0 h => (by cases h), fun Γ W es g0 h => (by cases h), fun Γ W tg ex g0 h => ?_⟩
    obtain ⟨n, p, ap, cp, rfl, h1, h2⟩ := asMeth_i h
    exact si_vals h1 (ih.1 Γ W (.Name n p) g0 h2).1
  | rng3 a b c iha ihb ihc =>
    refine ⟨fun Γ W ex g0 h => (by cases h), fun Γ W es g0 h => (by cases h), fun Γ W tg ex g0 h => ?_⟩
    obtain ⟨x, q, es, pos, rfl, h⟩ := asCall_i h
    obtain ⟨h0, h⟩ := and2 h
    obtain ⟨h1, h⟩ := and2 h
    obtain ⟨y, z, w, rfl, h⟩ := asT3_i h
    obtain ⟨h2, h⟩ := and2 h
    obtain ⟨h3, h⟩ := and2 h
    obtain ⟨h4, h⟩ := and2 h
    obtain ⟨h5, h⟩ := and2 h
    obtain ⟨h6, h7⟩ := and2 h
    cases of_decide_eq_true h0
    exact si_rng3 h1 (not_t h2) (not_t h3) (not_t h4) (iha.1 Γ W y g0 h5).1 (ihb.1 Γ W z g0 h6).1 (ihc.1 Γ W w g0 h7).1
  | lc3 vs t src vs1 t1 src1 vs2 t2 src2 cond elt ihs ihs1 ihs2 ihc ihe =>
    refine ⟨fun Γ W ex g0 h => ?_, fun Γ W es g0 h => (by cases h), fun Γ W tg ex g0 h => (by cases h)⟩
    obtain ⟨x, tg, it, tg1, it1, tg2, it2, scope, pos, rfl, h⟩ := asComp3_i h
    obtain ⟨h0, h⟩ := and2 h
    obtain ⟨a1, h⟩ := and2 h
    obtain ⟨a2, h⟩ := and2 h
    obtain ⟨a3, h⟩ := and2 h
    obtain ⟨b1, h⟩ := and2 h
    obtain ⟨b2, h⟩ := and2 h
    obtain ⟨b3, h⟩ := and2 h
    obtain ⟨b4, h⟩ := and2 h
    obtain ⟨b5, h⟩ := and2 h
    obtain ⟨c1, h⟩ := and2 h
    obtain ⟨c2, h⟩ := and2 h
    obtain ⟨c3, h⟩ := and2 h
    obtain ⟨c4, h⟩ := and2 h
    obtain ⟨c5, h⟩ := and2 h
    obtain ⟨c6, h⟩ := and2 h
    obtain ⟨c7, c8⟩ := and2 h
    cases yesB_i c7
    have s : SE RX Γ C gv K W (.ListComp x [⟨tg, it, [], 0⟩, ⟨tg1, it1, [], 0⟩, ⟨tg2, it2, [], 0⟩] scope pos) (den C (.lc3 vs t src vs1 t1 src1 vs2 t2 src2 (.lit (.bl true)) elt)) :=
      se_lc3 h0 (not_t a1) (not_t a2) (not_t a3) b1 b2 b3 b4 b5 (ihs.2.2 Γ W tg it g0 c1) ((tg_ok t).1 tg c2) (ihs1.2.2 (Γ.blk scope) W0 tg1 it1 g0.blk c3) ((tg_ok t1).1 tg1 c4) (ihs2.2.2 (Γ.blk scope) W0 tg2 it2 g0.blk c5) ((tg_ok t2).1 tg2 c6) (ihe.1 (Γ.blk scope) W0 x g0.blk c8).1
    exact ⟨s, fun _ => s.test fun _ _ => rfl⟩
  | dcomp vs t src cond k v => exact ⟨fun Γ W ex g0 h => (by cases h), fun Γ W es g0 h => (by cases h), fun Γ W tg ex g0 h => (by cases h)⟩
  | dget a b c => exact ⟨fun Γ W ex g0 h => (by cases h), fun Γ W es g0 h => (by cases h), fun Γ W tg ex g0 h => (by cases h)⟩
  | max3 a b c iha ihb ihc =>
    refine ⟨fun Γ W ex g0 h => ?_, fun Γ W es g0 h => (by cases h), fun Γ W tg ex g0 h => (by cases h)⟩
    obtain ⟨x, q, es, pos, rfl, h⟩ := asCall_i h
    obtain ⟨h0, h⟩ := and2 h
    obtain ⟨h1, h⟩ := and2 h
    obtain ⟨y, z, w, rfl, h⟩ := asT3_i h
    obtain ⟨h2, h⟩ := and2 h
    obtain ⟨h3, h⟩ := and2 h
    obtain ⟨h4, h⟩ := and2 h
    obtain ⟨h5, h⟩ := and2 h
    obtain ⟨h6, h7⟩ := and2 h
    cases of_decide_eq_true h0
    have s : SE RX Γ C gv K W (.Call (.Name "max" q) [y, z, w] [] pos) (den C (.max3 a b c)) := se_max3 h1 (not_t h2) (not_t h3) (not_t h4) (iha.1 Γ W y g0 h5).1 (ihb.1 Γ W z g0 h6).1 (ihc.1 Γ W w g0 h7).1
    exact ⟨s, fun _ => s.test fun _ _ => rfl⟩
  | cmp3 o p q a b c d iha ihb ihc ihd =>
    refine ⟨fun Γ W ex g0 h => ?_, fun Γ W es g0 h => (by cases h), fun Γ W tg ex g0 h => (by cases h)⟩
    obtain ⟨x, ps, ys, pos, rfl, h⟩ := asCmp_i h
    obtain ⟨p1, p2, p3, rfl, h⟩ := asT3_i h
    obtain ⟨y, z, w, rfl, h⟩ := asT3_i h
    obtain ⟨h0, h⟩ := and2 h
    obtain ⟨h00, h⟩ := and2 h
    obtain ⟨h01, h⟩ := and2 h
    obtain ⟨h1, h⟩ := and2 h
    obtain ⟨h2, h⟩ := and2 h
    obtain ⟨h3, h⟩ := and2 h
    obtain ⟨h4, h5⟩ := and2 h
    cases of_decide_eq_true h0
    cases of_decide_eq_true h00
    cases of_decide_eq_true h01
    exact ⟨se_cmp3 (pos := pos) (o := o) (p := p) (q := q) (not_t h1) (iha.1 Γ W x g0 h2).1 (ihb.1 Γ W y g0 h3).1 (ihc.1 Γ W z g0 h4).1 (ihd.1 Γ W w g0 h5).1, fun k => by cases k⟩
  | dl0 =>
    refine ⟨fun Γ W ex g0 h => ?_, fun Γ W es g0 h => (by cases h), fun Γ W tg ex g0 h => (by cases h)⟩
    obtain ⟨p, rfl⟩ := isEmpX_i h
    have q : SE RX Γ C gv K W (.Dict [] [] p) (den C .dl0) := sf_dl0.seN fun e d e' q => by cases q; exact .inr ⟨_, rfl⟩
    exact ⟨q, fun _ => q.test fun _ _ => rfl⟩
  | dl1 a b iha ihb =>
    refine ⟨fun Γ W ex g0 h => ?_, fun Γ W es g0 h => (by cases h), fun Γ W tg ex g0 h => (by cases h)⟩
    obtain ⟨x, y, p, rfl, h⟩ := asDict1_i h
    obtain ⟨h1, h2⟩ := and2 h
    have q : SE RX Γ C gv K W (.Dict [some x] [y] p) (den C (.dl1 a b)) := (sf_dl1 (iha.1 Γ W x g0 h1).1 (ihb.1 Γ W y g0 h2).1).seN fun e => dl1_new
    exact ⟨q, fun _ => q.test fun _ _ => rfl⟩
  | pairs a ih => exact ⟨fun Γ W ex g0 h => (by cases h), fun Γ W es g0 h => (by cases h), fun Γ W tg ex g0 h => (by cases h)⟩
  | nil =>
    refine ⟨fun Γ W ex g0 h => (by cases h), fun Γ W es g0 h => ?_, fun Γ W tg ex g0 h => (by cases h)⟩
    cases es with
    | nil => exact sl_nil
    | cons _ _ => cases h
  | cons a as iha ihas =>
    refine ⟨fun Γ W ex g0 h => (by cases h), fun Γ W es g0 h => ?_, fun Γ W tg ex g0 h => (by cases h)⟩
    obtain ⟨x, r, rfl, h⟩ := asC_i h
    obtain ⟨h1, h⟩ := and2 h
    obtain ⟨h2, h3⟩ := and2 h
    exact sl_cons (not_t h1) (iha.1 Γ W x g0 h2).1 (ihas.2.1 Γ W r g0 h3)
  | items a ih =>
    refine ⟨fun Γ W ex g0 h => (by cases h), fun Γ W es g0 h => (by cases h), fun Γ W tg ex g0 h => ?_⟩
    exact si_items (ih.1 Γ W ex g0 h).1
  | rng1 a ih =>
    refine ⟨fun Γ W ex g0 h => (by cases h), fun Γ W es g0 h => (by cases h), fun Γ W tg ex g0 h => ?_⟩
    obtain ⟨x, q, es, pos, rfl, h⟩ := asCall_i h
    obtain ⟨h0, h⟩ := and2 h
    obtain ⟨h1, h⟩ := and2 h
    obtain ⟨y, rfl, h⟩ := as1_i h
    obtain ⟨h2, h3⟩ := and2 h
    cases of_decide_eq_true h0
    exact si_rng1 h1 (not_t h2) (ih.1 Γ W y g0 h3).1
  | rng2 a b iha ihb =>
    refine ⟨fun Γ W ex g0 h => (by cases h), fun Γ W es g0 h => (by cases h), fun Γ W tg ex g0 h => ?_⟩
    obtain ⟨x, q, es, pos, rfl, h⟩ := asCall_i h
    obtain ⟨h0, h⟩ := and2 h
    obtain ⟨h1, h⟩ := and2 h
    obtain ⟨y, z, rfl, h⟩ := as2_i h
    obtain ⟨h2, h⟩ := and2 h
    obtain ⟨h3, h⟩ := and2 h
    obtain ⟨h4, h5⟩ := and2 h
    cases of_decide_eq_true h0
    exact si_rng2 h1 (not_t h2) (not_t h3) (iha.1 Γ W y g0 h4).1 (ihb.1 Γ W z g0 h5).1
  | zip a b iha ihb =>
    refine ⟨fun Γ W ex g0 h => (by cases h), fun Γ W es g0 h => (by cases h), fun Γ W tg ex g0 h => ?_⟩
    obtain ⟨ht, h⟩ := and2 h
    obtain ⟨x, q, es, pos, rfl, h⟩ := asCall_i h
    obtain ⟨h0, h⟩ := and2 h
    obtain ⟨h1, h⟩ := and2 h
    obtain ⟨y, z, rfl, h⟩ := as2_i h
    obtain ⟨h2, h⟩ := and2 h
    obtain ⟨h3, h⟩ := and2 h
    obtain ⟨h4, h5⟩ := and2 h
    cases of_decide_eq_true h0
    cases tg with
    | Tuple elts kk tpos => exact si_zip h1 (not_t h2) (not_t h3) (iha.1 Γ W y g0 h4).1 (ihb.1 Γ W z g0 h5).1
    | _ => cases ht
end
end Ev
set_option Elab.async false
set_option linter.all false
set_option maxRecDepth 100000
set_option maxHeartbeats 4000000
set_option autoImplicit false
/-! Ev11: statements: forms, what is wanted behind them, rules. -/
namespace Ev
open PySem PySem.Spec PyProof.Rows L2
variable [TabT]
/-! ### forms -/
def asExp (s : PySem.Stmt) (k : PySem.Expr → Pos → Bool) : Bool := match s with
  | .Expr e p => k e p
  | _ => false
def asAsg (s : PySem.Stmt) (k : PySem.Expr → PySem.Expr → Pos → Bool) : Bool := match s with
  | .Assign [t] e p => k t e p
  | _ => false
def asAug (s : PySem.Stmt) (k : PySem.Expr → Operator → PySem.Expr → Bool) : Bool := match s with
  | .AugAssign t o e _ => k t o e
  | _ => false
def asRet (s : PySem.Stmt) (k : PySem.Expr → Bool) : Bool := match s with
  | .Return (some e) _ => k e
  | _ => false
def isRetN : PySem.Stmt → Bool
  | .Return none _ => true
  | _ => false
def asIfS (s : PySem.Stmt) (k : PySem.Expr → List PySem.Stmt → List PySem.Stmt → Bool) : Bool := match s with
  | .If c a b _ => k c a b
  | _ => false
def asWhl (s : PySem.Stmt) (k : PySem.Expr → List PySem.Stmt → Bool) : Bool := match s with
  | .While c a [] _ => k c a
  | _ => false
def asFor (s : PySem.Stmt) (k : PySem.Expr → PySem.Expr → List PySem.Stmt → Bool) : Bool := match s with
  | .For t i a [] _ => k t i a
  | _ => false
def isPass : PySem.Stmt → Bool
  | .Pass _ => true
  | .Expr (.Constant (.str _) _ _) _ => true
  | _ => false
def isBrk : PySem.Stmt → Bool
  | .Break _ => true
  | _ => false
def isCnt : PySem.Stmt → Bool
  | .Continue _ => true
  | _ => false
/-- a call of a name's method, no keywords -/
def asMethA (e : PySem.Expr) (k : Str → Str → List PySem.Expr → Bool → Bool) : Bool := match e with
  | .Call (.Attribute (.Name x _) m ap) es [] cp => k x m es (ap.endLine == cp.line)
  | _ => false
def asNameP (e : PySem.Expr) (k : Str → Pos → Bool) : Bool := match e with
  | .Name x p => k x p
  | _ => false
def asTup2 (e : PySem.Expr) (k : PySem.Expr → PySem.Expr → Bool) : Bool := asTup e fun es => as2 es k
def as3 {a : Type} (l : List a) (k : a → a → a → Bool) : Bool := match l with
  | [x, y, z] => k x y z
  | _ => false
theorem asExp_i {s : PySem.Stmt} {k : PySem.Expr → Pos → Bool} (h : asExp s k = true) : ∃ e p, s = .Expr e p ∧ k e p = true := by
  cases s <;> first | exact ⟨_, _, rfl, h⟩ | cases h
theorem asAsg_i {s : PySem.Stmt} {k : PySem.Expr → PySem.Expr → Pos → Bool} (h : asAsg s k = true) : ∃ t e p, s = .Assign [t] e p ∧ k t e p = true := by
  cases s with
  | Assign ts e p =>
    match ts, h with
    | [t], h => exact ⟨t, e, p, rfl, h⟩
  | _ => cases h
theorem asAug_i {s : PySem.Stmt} {k : PySem.Expr → Operator → PySem.Expr → Bool} (h : asAug s k = true) : ∃ t o e p, s = .AugAssign t o e p ∧ k t o e = true := by
  cases s <;> first | exact ⟨_, _, _, _, rfl, h⟩ | cases h
theorem asRet_i {s : PySem.Stmt} {k : PySem.Expr → Bool} (h : asRet s k = true) : ∃ e p, s = .Return (some e) p ∧ k e = true := by
  cases s with
  | Return v p => cases v with
    | some e => exact ⟨e, p, rfl, h⟩
    | none => cases h
  | _ => cases h
theorem isRetN_i {s : PySem.Stmt} (h : isRetN s = true) : ∃ p, s = .Return none p := by
  cases s with
  | Return v p => cases v with
    | none => exact ⟨p, rfl⟩
    | some e => cases h
  | _ => cases h
theorem asIfS_i {s : PySem.Stmt} {k : PySem.Expr → List PySem.Stmt → List PySem.Stmt → Bool} (h : asIfS s k = true) : ∃ c a b p, s = .If c a b p ∧ k c a b = true := by
  cases s <;> first | exact ⟨_, _, _, _, rfl, h⟩ | cases h
theorem asWhl_i {s : PySem.Stmt} {k : PySem.Expr → List PySem.Stmt → Bool} (h : asWhl s k = true) : ∃ c a p, s = .While c a [] p ∧ k c a = true := by
  cases s with
  | While c a b p => cases b with
    | nil => exact ⟨_, _, _, rfl, h⟩
    | cons _ _ => cases h
  | _ => cases h
theorem asFor_i {s : PySem.Stmt} {k : PySem.Expr → PySem.Expr → List PySem.Stmt → Bool} (h : asFor s k = true) : ∃ t i a p, s = .For t i a [] p ∧ k t i a = true := by
  cases s with
  | For t i a b p => cases b with
    | nil => exact ⟨_, _, _, _, rfl, h⟩
    | cons _ _ => cases h
  | _ => cases h
theorem asMethA_i {e : PySem.Expr} {k : Str → Str → List PySem.Expr → Bool → Bool} (h : asMethA e k = true) : ∃ x xp m ap es cp, e = .Call (.Attribute (.Name x xp) m ap) es [] cp ∧ k x m es (ap.endLine == cp.line) = true := by
  cases e with
  | Call f es ks cp =>
    cases f with
    | Attribute o m ap =>
      cases o with
      | Name x xp => cases ks with
        | nil => exact ⟨_, _, _, _, _, _, rfl, h⟩
        | cons _ _ => cases h
      | _ => cases h
    | _ => cases h
  | _ => cases h
theorem asNameP_i {e : PySem.Expr} {k : Str → Pos → Bool} (h : asNameP e k = true) : ∃ x p, e = .Name x p ∧ k x p = true := by
  cases e <;> first | exact ⟨_, _, rfl, h⟩ | cases h
theorem as3_i {a : Type} {l : List a} {k : a → a → a → Bool} (h : as3 l k = true) : ∃ x y z, l = [x, y, z] ∧ k x y z = true := by
  match l, h with
  | [x, y, z], h => exact ⟨x, y, z, rfl, h⟩
def isComp : PySem.Expr → Bool
  | .ListComp _ _ _ _ => true
  | .SetComp _ _ _ _ => true
  | .DictComp _ _ _ _ _ => true
  | _ => false
def isTup : PySem.Expr → Bool
  | .Tuple _ _ _ => true
  | _ => false
def lcB : Ex → Bool
  | .lc _ _ _ _ _ => true
  | .lc2 _ _ _ _ _ _ _ _ _ => true
  | _ => false
/-- what makes a new list -/
def newB : Ex → Bool
  | .lst _ => true
  | .lc _ _ _ _ _ => true
  | .lc2 _ _ _ _ _ _ _ _ _ => true
  | _ => false
theorem swaps_no {e : PySem.Expr} {t : Option PySem.Expr} {l : Nat} {env : PySem.Env} (h : isComp e = false) : swapsWith e t l env = pure false := by
  cases e <;> first | rfl | cases h
/-- a comprehension that is stored into a name of its line -/
def swB (Γ : Gam) (y : Str) (py : Pos) (e : PySem.Expr) : Bool := match e with
  | .ListComp _ _ scope pos => decide (Γ.sc.names.lookup y = some .local) && ((py.line == pos.line) && !(scope.names.any fun (n, k) => n == y && (k == .local || k == .cell)))
  | _ => false
theorem sw_tup {e : PySem.Expr} {ts : List PySem.Expr} {k l : Nat} {p : Pos} {env : PySem.Env} : swapsWith e (some (.Tuple ts k p)) l env = pure false := by
  cases e <;> rfl
theorem sw_cell {Γ : Gam} {e : PySem.Expr} {n : Str} {l : Nat} {py : Pos} {env : PySem.Env} (hsc : env.scope = Γ.sc) (h : (!decide (Γ.sc.names.lookup n = some .local)) = true) : swapsWith e (some (.Name n py)) l env = pure false := by
  have h : Γ.sc.names.lookup n ≠ some .local := by simpa using h
  have k : (env.kindOf n == some NameKind.local) = false := by
    show (env.scope.names.lookup n == _) = false
    rw [hsc]
    exact beq_eq_false_iff_ne.mpr h
  cases e <;> first
    | rfl
    | (unfold swapsWith; simp [k])
/-- no store within the comprehension -/
def swF (Γ : Gam) (tg e : PySem.Expr) : Bool := !isComp e || (isTup tg || asName tg fun n => !decide (Γ.sc.names.lookup n = some .local))
theorem swF_no {Γ : Gam} {tg e : PySem.Expr} {l : Nat} {env : PySem.Env} (hsc : env.scope = Γ.sc) (h : swF Γ tg e = true) : swapsWithSole [tg] e l env = pure false := by
  show swapsWith e (some tg) l env = pure false
  unfold swF at h
  rw [Bool.or_eq_true, Bool.or_eq_true] at h
  rcases h with h | h | h
  · exact swaps_no (by simpa using h)
  · cases tg <;> first | exact sw_tup | cases h
  · obtain ⟨n, p, rfl, h⟩ := asName_i h
    exact sw_cell hsc h
/-- stored from the right -/
def sw2B (px py : Pos) (es : List PySem.Expr) : Bool := (py.line == px.line) && (!(es.all (foldedForSure 8)) && (!(es.all (constantsAlone 8)) && noStar es))
theorem no_star_any {es : List PySem.Expr} (h : noStar es = true) : (es.any fun | .Starred .. => true | _ => false) = false := by
  rw [List.any_eq_false]
  intro x hx
  unfold noStar at h
  have := List.all_eq_true.mp h x hx
  cases x <;> first | (intro z; cases z; done) | cases this
theorem sw2_ok {env : PySem.Env} {x y : Str} {px py pt pt2 : Pos} {kt k2 : Nat} {a b : PySem.Expr} (hk : env.scope.kind = .function) (hx : env.scope.names.lookup x = some .local) (hy : env.scope.names.lookup y = some .local) (hne : x ≠ y)
    (h : sw2B px py [a, b] = true) : swappedStores [.Tuple [.Name x px, .Name y py] kt pt] (.Tuple [a, b] k2 pt2) env = pure (some [x, y]) := by
  unfold sw2B at h
  simp only [Bool.and_eq_true, Bool.not_eq_true'] at h
  obtain ⟨h1, h2, h3, h4⟩ := h
  have kx : (env.kindOf x == some NameKind.local) = true := by show (env.scope.names.lookup x == _) = true; rw [hx]; rfl
  have ky : (env.kindOf y == some NameKind.local) = true := by show (env.scope.names.lookup y == _) = true; rw [hy]; rfl
  have hb : env.blockKind = .function := by unfold Env.blockKind; rw [hk]; rfl
  have hsx : ((px.line : Nat) == px.line) = true := by simp
  have hxy : (y == x) = false := by simpa using Ne.symm hne
  have hd : ([x, y] : List Str).eraseDups = [x, y] := by
    simp [List.eraseDups_cons, hne, Ne.symm hne, hxy]
  unfold swappedStores
  have l1 : (Option.map (fun e : PySem.Expr => e.pos.line) [PySem.Expr.Name x px, PySem.Expr.Name y py].head?).getD 0 = px.line := rfl
  simp only [hb, kx, ky, h1, h2, h3, hsx, l1, Bool.true_and, ↓reduceIte, List.filterMap_cons, List.filterMap_nil, List.length_cons, List.length_nil, hd]
  refine Eq.trans (if_neg Bool.false_ne_true) (Eq.trans (if_neg fun z => Bool.false_ne_true ((no_star_any h4).symm.trans z)) ?_)
  rfl
theorem sw3_ok {env : PySem.Env} {x y z : Str} {px py pz pt pt2 : Pos} {kt k2 : Nat} {a b c : PySem.Expr} (hk : env.scope.kind = .function) (hx : env.scope.names.lookup x = some .local) (hy : env.scope.names.lookup y = some .local) (hz : env.scope.names.lookup z = some .local) (hxy : x ≠ y) (hxz : x ≠ z) (hyz : y ≠ z)
    (h : sw2B px py [a, b, c] = true) (hp : (pz.line == px.line) = true) : swappedStores [.Tuple [.Name x px, .Name y py, .Name z pz] kt pt] (.Tuple [a, b, c] k2 pt2) env = pure (some [x, y, z]) := by
  unfold sw2B at h
  simp only [Bool.and_eq_true, Bool.not_eq_true'] at h
  obtain ⟨h1, h2, h3, h4⟩ := h
  have kx : (env.kindOf x == some NameKind.local) = true := by show (env.scope.names.lookup x == _) = true; rw [hx]; rfl
  have ky : (env.kindOf y == some NameKind.local) = true := by show (env.scope.names.lookup y == _) = true; rw [hy]; rfl
  have kz : (env.kindOf z == some NameKind.local) = true := by show (env.scope.names.lookup z == _) = true; rw [hz]; rfl
  have hb : env.blockKind = .function := by unfold Env.blockKind; rw [hk]; rfl
  have hsx : ((px.line : Nat) == px.line) = true := by simp
  have e1 : (y == x) = false := by simpa using Ne.symm hxy
  have e2 : (z == x) = false := by simpa using Ne.symm hxz
  have e3 : (z == y) = false := by simpa using Ne.symm hyz
  have hd : ([x, y, z] : List Str).eraseDups = [x, y, z] := by
    simp [List.eraseDups_cons, e1, e2, e3]
  unfold swappedStores
  have l1 : (Option.map (fun e : PySem.Expr => e.pos.line) [PySem.Expr.Name x px, PySem.Expr.Name y py, PySem.Expr.Name z pz].head?).getD 0 = px.line := rfl
  simp only [hb, kx, ky, kz, h1, h2, h3, hp, hsx, l1, Bool.true_and, ↓reduceIte, List.filterMap_cons, List.filterMap_nil, List.length_cons, List.length_nil, hd]
  refine Eq.trans (if_neg Bool.false_ne_true) (Eq.trans (if_neg fun z => Bool.false_ne_true ((no_star_any h4).symm.trans z)) ?_)
  rfl
theorem swl_ok {Γ : Gam} {env : PySem.Env} {y : Str} {py : Pos} {e : PySem.Expr} {l : Nat} (hsc : env.scope = Γ.sc) (hk : Γ.sc.kind = .function) (h : swB Γ y py e = true) : swapsWith e (some (.Name y py)) l env = pure true ∧ env.scope.names.lookup y = some .local := by
  unfold swB at h
  split at h
  · obtain ⟨h1, h2⟩ := and2 h
    obtain ⟨h2, h3⟩ := and2 h2
    have h1 := of_decide_eq_true h1
    exact ⟨sw_true (by rw [hsc]; exact hk) (by rw [hsc]; exact h1) h2 (not_t h3), by rw [hsc]; exact h1⟩
  · cases h
/-! ### what is wanted behind a statement -/
section
variable (RX : RXT) (K : PySem.W.Frag) (W : WX)
def FlP (B : Addr → Prop) (e : Env) (σ : L2.St) (H : Hp) (D : Ends) : Fl → Prop
  | .nx => D.nx σ H
  | .bk => D.bk σ H
  | .ct => D.ct σ H
  | .rt d => ∀ v, Rp K (Of B e σ) H d v → D.rt v H
def PostS (io : Bool) (B : Addr → Prop) (e : Env) (σ : L2.St) (H : Hp) (r : R Fl) (D : Ends) : Prop := match r with
  | .ok fl e' => ∀ σ' H', RSt K B H' e' σ' → Stp H e σ H' e' σ' → (io = true → σ'[0]? = σ[0]?) → FlP K B e' σ' H' D fl
  | .ex x e' => ∀ σ' c dd H', RSt K B H' e' σ' → Stp H e σ H' e' σ' → RX x c dd H' → W c dd σ' H'
  | .no => False
end
section
variable {RX : RXT} {K : PySem.W.Frag} {W : WX} {io : Bool} {B : Addr → Prop} {e e1 : Env} {σ σ1 : L2.St} {H H1 : Hp}
theorem PostS.shift {r : R Fl} {D : Ends} (st : Stp H e σ H1 e1 σ1) (hp : io = true → σ1[0]? = σ[0]?) (h : PostS RX K W io B e σ H r D) : PostS RX K W io B e1 σ1 H1 r D := by
  cases r with
  | ok x e' => exact fun σ' H' rs s p => h σ' H' rs (st.trans s) fun z => (p z).trans (hp z)
  | ex x e' => exact fun σ' y dd H' rs s rl => h σ' y dd H' rs (st.trans s) rl
  | no => exact h
theorem PostS.bindE {a b : Type} {Rel : (Addr → Prop) → Hp → a → b → Prop} {r : R a} {f : a → Env → R Fl} {D : Ends} {Q : b → Hp → Prop} (h : PostS RX K W io B e σ H (r.bind f) D)
    (k : ∀ x e1 y H1, r = .ok x e1 → RSt K B H1 e1 σ → Stp H e σ H1 e1 σ → Rel (Of B e1 σ) H1 x y → PostS RX K W io B e1 σ H1 (f x e1) D → Q y H1) : Post RX K W B e σ H Rel r Q := by
  cases r with
  | ok x e1 => exact fun y H1 rs st rl => k x e1 y H1 rfl rs st rl (PostS.shift st (fun _ => rfl) h)
  | ex x e1 => exact fun c dd H' rs st rl => h σ c dd H' rs st rl
  | no => exact h
theorem PostS.bindF {r : R D} {f : D → Env → R Fl} {D : Ends} {Q : VK} (h : PostS RX K W io B e σ H (r.bind f) D) (hl : isNewR r)
    (k : ∀ m ds e1 p us H1, H p = none → RSt K (With B p) H1 e1 σ → Stp H e σ H1 e1 σ → LOs H1 p m ds us → Rpo K (Of (With B p) e1 σ) H1 m ds us → PostS RX K W io B e σ H (f (unD m ds) e1) D → Q (.ref p) H1) : FPost RX K W B e σ H r Q := by
  cases r with
  | ok x e1 =>
    refine FPost.one (hl x e1 rfl) fun m ds ed p us H1 hp rs st hp1 rl => k m ds e1 p us H1 hp rs st hp1 rl ?_
    rw [← ed]
    exact h
  | ex x e1 => exact fun c dd H' rs st rl => h σ c dd H' rs st rl
  | no => exact h
/-- what comes after a statement -/
theorem PostS.seq {r : R Fl} {g : Env → R Fl} {D D' : Ends} (h : PostS RX K W io B e σ H (r.bind fun f e => match f with
    | .nx => g e
    | f => .ok f e) D) (hr : D'.rt = D.rt) (hb : D'.bk = D.bk) (hc : D'.ct = D.ct) (k : ∀ e1 σ1 H1, RSt K B H1 e1 σ1 → (io = true → σ1[0]? = σ[0]?) → PostS RX K W io B e1 σ1 H1 (g e1) D → D'.nx σ1 H1) : PostS RX K W io B e σ H r D' := by
  cases r with
  | ok fl e1 =>
    intro σ' H' rs st p
    cases fl with
    | nx => exact k e1 σ' H' rs p (PostS.shift (r := g e1) st p h)
    | bk => show D'.bk σ' H'; rw [hb]; exact h σ' H' rs st p
    | ct => show D'.ct σ' H'; rw [hc]; exact h σ' H' rs st p
    | rt d => intro v rv; rw [hr]; exact h σ' H' rs st p v rv
  | ex x e1 => exact h
  | no => exact h
theorem PostS.way {fc : Env → R D} {ga gb : Env → R Fl} {D : Ends} {Q : Bool → Hp → Prop} (h : PostS RX K W io B e σ H ((fc e).bind fun x e => R.way x (ga e) (gb e)) D)
    (k : ∀ b e1 H1, RSt K B H1 e1 σ → PostS RX K W io B e1 σ H1 (if b = true then ga e1 else gb e1) D → Q b H1) : Post RX K W B e σ H eqB (tst fc e) Q := by
  unfold tst
  cases q : fc e with
  | ok d e1 =>
    rw [q] at h
    replace h : PostS RX K W io B e σ H (R.way d (ga e1) (gb e1)) D := h
    show Post RX K W B e σ H eqB (R.of d.tr e1) Q
    unfold R.way at h
    cases z : d.tr with
    | none => rw [z] at h; exact h.elim
    | some b =>
      rw [z] at h
      intro y H1 rs st hy
      have hy : b = y := hy
      subst hy
      refine k b e1 H1 rs (PostS.shift st (fun _ => rfl) ?_)
      cases b with
      | true => exact h
      | false => exact h
  | ex x e1 => rw [q] at h; exact fun c dd H' rs st rl => h σ c dd H' rs st rl
  | no => rw [q] at h; exact h
end
structure OkS (RX : RXT) (Γ : Gam) (C : Ctx) (gv : Nat → V) (X : Cx) (W : WX) : Prop extends Ok RX Γ C gv X W where
  own : PassesOwn (model X.prog X.w) X.A X.env X.xe
section
variable (RX : RXT) (Γ : Gam) (C : Ctx) (gv : Nat → V) (K : PySem.W.Frag) (W : WX) (io : Bool)
def SS (st : PySem.Stmt) (f : Env → R Fl) : Prop := ∃ t, (∀ X, OkS RX Γ C gv X W → X.K = K → PS X st t) ∧ ∀ B e σ H D, RSt K B H e σ → PostS RX K W io B e σ H (f e) D → t D σ H
def SSs (st : List PySem.Stmt) (f : Env → R Fl) : Prop := ∃ t, (∀ X, OkS RX Γ C gv X W → X.K = K → PSs X st t) ∧ ∀ B e σ H D, RSt K B H e σ → PostS RX K W io B e σ H (f e) D → t D σ H
end
section
variable {RX : RXT} {Γ : Gam} {C : Ctx} {gv : Nat → V} {K : PySem.W.Frag} {W : WX} {io : Bool} {pos : Pos} {x y z : PySem.Expr} {fa fb fc : Env → R D} {f g : Env → R Fl} {st : PySem.Stmt} {sts sts2 : List PySem.Stmt}
theorem ss_nil : SSs RX Γ C gv K W io [] fun e => .ok .nx e := ⟨tNext, fun X ok hK => pss_nil, fun B e σ H D rs h => h σ H rs .refl fun _ => rfl⟩
theorem ss_cons (h1 : SS RX Γ C gv K W io st f) (h2 : SSs RX Γ C gv K W io sts g) : SSs RX Γ C gv K W io (st :: sts) fun e => (f e).bind fun fl e => match fl with
    | .nx => g e
    | fl => .ok fl e := by
  obtain ⟨t, p, q⟩ := h1
  obtain ⟨u, p2, q2⟩ := h2
  refine ⟨tSeq t u, fun X ok hK => pss_cons (p X ok hK) (p2 X ok hK), fun B e σ H D rs h => q B e σ H _ rs (PostS.seq h rfl rfl rfl fun e1 σ1 H1 rs1 _ h1 => q2 B e1 σ1 H1 D rs1 h1)⟩
theorem ss_exp (hc : isComp x = false) (ha : SE RX Γ C gv K W x fa) : SS RX Γ C gv K W io (.Expr x pos) fun e => (fa e).bind fun _ e => .ok .nx e := by
  obtain ⟨t, p, q⟩ := ha
  exact ⟨tDrop t, fun X ok hK => ps_expr (p X ok.toOk hK) (swaps_no hc), fun B e σ H D rs h => q B e σ H _ rs (PostS.bindE h fun x e1 y H1 _ rs1 _ _ h1 => h1 σ H1 rs1 .refl fun _ => rfl)⟩
theorem ss_ret (ha : SE RX Γ C gv K W x fa) : SS RX Γ C gv K W io (.Return (some x) pos) fun e => (fa e).bind fun d e => .ok (.rt d) e := by
  obtain ⟨t, p, q⟩ := ha
  exact ⟨tRet t, fun X ok hK => ps_ret (p X ok.toOk hK), fun B e σ H D rs h => q B e σ H _ rs (PostS.bindE h fun x e1 y H1 _ rs1 _ rl h1 => h1 σ H1 rs1 .refl (fun _ => rfl) y rl)⟩
theorem ss_retN : SS RX Γ C gv K W io (.Return none pos) fun e => .ok (.rt .non) e :=
  ⟨tRetN, fun X ok hK => ps_retN, fun B e σ H D rs h => h σ H rs .refl (fun _ => rfl) .non (by unfold Rp; rfl)⟩
theorem ss_pass (h : isPass st = true) : SS RX Γ C gv K W io st fun e => .ok .nx e := by
  refine ⟨tNext, fun X ok hK => ?_, fun B e σ H D rs h => h σ H rs .refl fun _ => rfl⟩
  unfold isPass at h
  split at h
  · exact ps_pass
  · exact ps_doc
  · cases h
theorem ss_brk (h : isBrk st = true) : SS RX Γ C gv K W io st fun e => .ok .bk e := by
  refine ⟨tBreak, fun X ok hK => ?_, fun B e σ H D rs h => h σ H rs .refl fun _ => rfl⟩
  unfold isBrk at h
  split at h
  · exact ps_break
  · cases h
theorem ss_cnt (h : isCnt st = true) : SS RX Γ C gv K W io st fun e => .ok .ct e := by
  refine ⟨tCont, fun X ok hK => ?_, fun B e σ H D rs h => h σ H rs .refl fun _ => rfl⟩
  unfold isCnt at h
  split at h
  · exact ps_continue
  · cases h
theorem ss_never : SS RX Γ C gv K W io st fun _ => .no := ⟨tNever, fun X ok hK => ps_never, fun B e σ H D rs h => h⟩
theorem ss_if (hc : ST RX Γ C gv K W x fc) (ha : SSs RX Γ C gv K W io sts f) (hb : SSs RX Γ C gv K W io sts2 g) : SS RX Γ C gv K W io (.If x sts sts2 pos) fun e => (fc e).bind fun x e => R.way x (f e) (g e) := by
  obtain ⟨t, p, q⟩ := hc
  obtain ⟨u, p2, q2⟩ := ha
  obtain ⟨v, p3, q3⟩ := hb
  refine ⟨tIfS t u v, fun X ok hK => ps_if (p X ok.toOk hK) (p2 X ok hK) (p3 X ok hK), fun B e σ H D rs h => q B e σ H _ rs (PostS.way h fun b e1 H1 rs1 h1 => ?_)⟩
  cases b with
  | true => exact q2 B e1 σ H1 D rs1 h1
  | false => exact q3 B e1 σ H1 D rs1 h1
theorem tgt_pin {t : Tg} {σ σ' : L2.St} (hio : (!(io && t.slots.contains 0)) = true) (h : ∀ j, j ∉ t.slots → σ'[j]? = σ[j]?) (k : io = true) : σ'[0]? = σ[0]? := by
  refine h 0 fun z => ?_
  rw [k] at hio
  simp only [Bool.true_and, Bool.not_eq_true'] at hio
  have := List.contains_iff_mem.mpr z
  rw [hio] at this
  cases this
theorem ss_asg {t : Tg} {tg : PySem.Expr} (hsw : ∀ env l, env.scope = Γ.sc → swapsWithSole [tg] x l env = pure false) (hss : ∀ env, env.scope = Γ.sc → swappedStores [tg] x env = pure none) (hio : (!(io && t.slots.contains 0)) = true) (hst : isStar tg = false) (ha : SE RX Γ C gv K W x fa) (hg : SG RX Γ C gv K W t tg) :
    SS RX Γ C gv K W io (.Assign [tg] x pos) fun e => (fa e).bind fun d e => match bindT t d e with
      | some e => .ok .nx e
      | none => .no := by
  obtain ⟨u, p, q⟩ := ha
  obtain ⟨v, p2, q2⟩ := hg
  refine ⟨tAsg u v, fun X ok hK => ps_asg (p X ok.toOk hK) (p2 X ok.toOk hK) (hsw _ _ ok.hsc) (hss _ ok.hsc) (by rw [each_cons hst]; rfl), fun B e σ H D rs h => q B e σ H _ rs (PostS.bindE h fun d e1 y H1 _ rs1 _ rl h1 => ?_)⟩
  refine q2 B e1 σ H1 d y _ rs1 rl ?_
  cases z : bindT t d e1 with
  | none => rw [z] at h1; exact h1.elim
  | some e2 =>
    rw [z] at h1
    exact fun σ' rs2 st2 o2 => h1 σ' H1 rs2 st2 (tgt_pin hio o2)
/-- name = a new list of its own; name = a comprehension -/
theorem set_pin {σ : L2.St} {i : Nat} {v : Option V} (hio : (!(io && i == 0)) = true) (k : io = true) : (σ.set i v)[0]? = σ[0]? := by
  rw [k] at hio
  rw [List.getElem?_set_ne]
  intro z
  rw [z] at hio
  cases hio
theorem ss_own {i : Nat} {n : Str} {py : Pos} (hi : Γ.N[i]? = some n) (hst : stB Γ n = true) (hsw : (!isComp x || (swB Γ n py x || !decide (Γ.sc.names.lookup n = some .local))) = true) (hio : (!(io && i == 0)) = true) (hl : ∀ e, isNewR (fa e)) (ha : SF RX Γ C gv K W x fa) : SS RX Γ C gv K W io (.Assign [.Name n py] x pos) fun e => (fa e).bind fun d e => match d with
    | .lst ds => .ok .nx (e.set i (some (Sl.own ds)))
    | .dic ds => .ok .nx (e.set i (some (Sl.dic ds)))
    | _ => .no := by
  obtain ⟨t, p, q⟩ := ha
  refine ⟨tAsg t (gName i), fun X ok hK => (p X ok.toOk hK).2 i n py pos (by rw [ok.hN]; exact hi) (ok.toOk.st hst) ?_, fun B e σ H D rs h => q B e σ H _ rs (PostS.bindF h (hl e) fun m ds e1 p us H1 hp rs1 st1 hp1 rl h1 => ?_)⟩
  · cases z : isComp x with
    | false => exact .inr (swaps_no z)
    | true =>
      rw [z] at hsw
      rw [Bool.not_true, Bool.false_or, Bool.or_eq_true] at hsw
      rcases hsw with hsw | hsw
      · exact .inl (swl_ok ok.hsc ok.kd hsw)
      · exact .inr (sw_cell ok.hsc hsw)
  · have nb : ¬ B p := fun z => by
      obtain ⟨ws, w, _⟩ := rs.bnd p z
      rw [hp] at w; cases w
    obtain ⟨r1, r2⟩ := rs1.adopt nb (i := i) hp1 rl
    replace h1 : PostS RX K W io B e σ H (.ok .nx (e1.set i (some (Sl.ow m ds)))) D := by
      cases m <;> exact h1
    refine h1 (σ.set i (some (V.ref p))) H1 r1 ⟨st1.fr, st1.al, fun a z => ?_⟩ (set_pin hio)
    rcases r2 a z with w | w
    · exact st1.sub a w
    · exact .inr (by rw [w]; exact hp)
theorem ss_setF {i : Nat} {n : Str} {py : Pos} (hi : Γ.N[i]? = some n) (hst : stB Γ n = true) (hsw : (!isComp x || swB Γ n py x) = true) (hio : (!(io && i == 0)) = true) (hl : ∀ e, isLstR (fa e)) (ha : SF RX Γ C gv K W x fa) : SS RX Γ C gv K W io (.Assign [.Name n py] x pos) fun e => (fa e).bind fun d e => match bindT (.nm i) d e with
    | some e => .ok .nx e
    | none => .no := by
  obtain ⟨t, p, q⟩ := ha
  refine ⟨tAsg t (gName i), fun X ok hK => (p X ok.toOk hK).2 i n py pos (by rw [ok.hN]; exact hi) (ok.toOk.st hst) ?_, fun B e σ H D rs h => q B e σ H _ rs (Post.fresh rs (hl e) (PostS.bindE h fun d e1 v H1 _ rs1 st1 rl h1 => ?_))⟩
  · cases z : isComp x with
    | false => exact .inr (swaps_no z)
    | true =>
      rw [z] at hsw
      exact .inl (swl_ok ok.hsc ok.kd hsw)
  · obtain ⟨r1, r2⟩ := rs1.put (i := i) rl
    exact h1 (σ.set i (some v)) H1 r1 r2 (set_pin hio)
end
end Ev
set_option Elab.async false
set_option linter.all false
set_option maxRecDepth 100000
set_option maxHeartbeats 4000000
set_option autoImplicit false
/-! Ev11b: new lists that a name owns; rows of values and new lists. -/
namespace Ev
open PySem PySem.Spec PyProof.Rows L2
variable [TabT]
def asLF (f : Env → R D) : Env → R D := fun e => asL (f e)
theorem asL_new {r : R D} : isNewR (asL r) := fun d e q => by
  cases r with
  | ok x e1 =>
    cases x with
    | lst ds => cases q; exact .inl ⟨ds, rfl⟩
    | dic ds => cases q; exact .inr ⟨ds, rfl⟩
    | _ => cases q
  | ex _ _ => cases q
  | no => cases q
theorem asL_id {r : R D} (h : isNewR r) : asL r = r := by
  cases r with
  | ok x e1 =>
    rcases h x e1 rfl with ⟨ds, rfl⟩ | ⟨ds, rfl⟩ <;> rfl
  | ex _ _ => rfl
  | no => rfl
theorem asLF_id {f : Env → R D} (h : ∀ e, isNewR (f e)) : asLF f = f := funext fun e => asL_id (h e)
section
variable {RX : RXT} {Γ : Gam} {C : Ctx} {gv : Nat → V} {K : PySem.W.Frag} {W : WX} {io : Bool} {pos : Pos} {x y z : PySem.Expr} {fa fb fc : Env → R D} {f g : Env → R Fl} {st : PySem.Stmt} {sts sts2 : List PySem.Stmt}
theorem FPost.new {B : Addr → Prop} {e : Env} {σ : L2.St} {H : Hp} {ds : List D} {us : List V} {Q : VK} (rs : RSt K B H e σ) (h : FPost RX K W B e σ H (.ok (.lst ds) e) Q) (rl : Rps K (Of B e σ) H ds us) {p : Addr} (hp : H p = none) : Q (.ref p) (upd H p (.lst us)) := by
  refine h p us _ hp (rs.with_ hp) (rs.laid hp).2 upd_same ?_
  refine Rps.mono (Fr.fresh hp) (fun _ z => z.elim) (fun b q => ?_) rl
  rcases q with (q | q) | q
  · exact .inl (.inl q)
  · exact .inr (by rw [q]; exact hp)
  · exact .inl (.inr q)
theorem FPost.bindA {a b : Type} {Rel : (Addr → Prop) → Hp → a → b → Prop} {B : Addr → Prop} {e : Env} {σ : L2.St} {H : Hp} {r : R a} {f : a → Env → R D} {Q2 : VK} {Q : b → Hp → Prop} (h : FPost RX K W B e σ H (asL (r.bind f)) Q2)
    (k : ∀ x e1 y H1, r = .ok x e1 → RSt K B H1 e1 σ → Stp H e σ H1 e1 σ → Rel (Of B e1 σ) H1 x y → FPost RX K W B e1 σ H1 (asL (f x e1)) Q2 → Q y H1) : Post RX K W B e σ H Rel r Q := by
  cases r with
  | ok x e1 => exact fun y H1 rs st rl => k x e1 y H1 rfl rs st rl (FPost.shift st h)
  | ex x e1 => exact h
  | no => exact h
theorem sf_cat (ha : SE RX Γ C gv K W x fa) (hb : SE RX Γ C gv K W y fb) : SF RX Γ C gv K W (.BinOp x .Add y pos) (asLF fun e => (fa e).bind fun a e => (fb e).bind fun b e => R.of (binop .add a b) e) := by
  obtain ⟨ta, pa, qa⟩ := ha
  obtain ⟨tb, pb, qb⟩ := hb
  refine ⟨tOp rCat ta tb, fun X ok hK => ⟨pe_op op_cat (pa X ok hK) (pb X ok hK), fun i y py spos hy hl hsw => ps_set (by rw [ok.hN]; exact ok.nd) hy hl.1 (pe_op op_cat (pa X ok hK) (pb X ok hK)) rfl hl.2⟩, fun B e σ H Q rs h => ?_⟩
  refine qa B e σ H _ rs (FPost.bindA h fun d1 e1 v1 H1 _ rs1 _ r1 h1 => ?_)
  refine qb B e1 σ H1 _ rs1 (FPost.bindA h1 fun d2 e2 v2 H2 _ rs2 st2 r2 h2 => ?_)
  cases d1 with
  | lst as =>
    cases d2 with
    | lst bs =>
      by_cases hl : as.length + bs.length ≤ lim
      · have e0 : binop .add (.lst as) (.lst bs) = some (.lst (as ++ bs)) := by simp only [binop]; rw [if_pos hl]
        rw [e0] at h2
        have k1 := rs1.keep st2 r1
        obtain ⟨a, vs, e, _, s1, r⟩ := k1.unlst
        obtain ⟨b, us, e', _, s2, r'⟩ := r2.unlst
        refine ⟨a, b, vs, us, e, e', s1, s2, ?_, fun p hp => FPost.new rs2 h2 (r.app r') hp⟩
        rw [← r.len, ← r'.len]
        exact Nat.le_trans hl lim_line
      · have e0 : binop .add (.lst as) (.lst bs) = none := by simp only [binop]; rw [if_neg hl]
        rw [e0] at h2
        exact h2.elim
    | _ => exact h2.elim
  | tup as =>
    cases d2 with
    | tup bs =>
      exfalso
      simp only [binop] at h2
      split at h2 <;> exact h2.elim
    | _ => exact h2.elim
  | _ => cases d2 <;> exact h2.elim
theorem sf_rep (ha : SE RX Γ C gv K W x fa) (hb : SE RX Γ C gv K W y fb) : SF RX Γ C gv K W (.BinOp x .Mult y pos) (asLF fun e => (fa e).bind fun a e => (fb e).bind fun b e => R.of (binop .mul a b) e) := by
  obtain ⟨ta, pa, qa⟩ := ha
  obtain ⟨tb, pb, qb⟩ := hb
  refine ⟨tOp rRep ta tb, fun X ok hK => ⟨pe_op op_rep (pa X ok hK) (pb X ok hK), fun i y py spos hy hl hsw => ps_set (by rw [ok.hN]; exact ok.nd) hy hl.1 (pe_op op_rep (pa X ok hK) (pb X ok hK)) rfl hl.2⟩, fun B e σ H Q rs h => ?_⟩
  refine qa B e σ H _ rs (FPost.bindA h fun d1 e1 v1 H1 _ rs1 _ r1 h1 => ?_)
  refine qb B e1 σ H1 _ rs1 (FPost.bindA h1 fun d2 e2 v2 H2 _ rs2 st2 r2 h2 => ?_)
  cases d1 with
  | lst as =>
    cases d2 with
    | int k =>
      by_cases hl : as.length * k.toNat ≤ lim ∧ -(2 ^ 63) ≤ k ∧ k < 2 ^ 63
      · have e0 : binop .mul (.lst as) (.int k) = some (.lst (List.replicate k.toNat as).flatten) := by simp only [binop]; rw [if_pos hl]
        rw [e0] at h2
        have k1 := rs1.keep st2 r1
        obtain ⟨a, vs, e, _, s1, r⟩ := k1.unlst
        refine ⟨a, k, vs, e, r2.unint, s1, hl.2.1, hl.2.2, ?_, fun p hp => FPost.new rs2 h2 (Rps.rep r _) hp⟩
        rw [← r.len]
        exact Nat.le_trans hl.1 lim_line
      · have e0 : binop .mul (.lst as) (.int k) = none := by simp only [binop]; rw [if_neg hl]
        rw [e0] at h2
        exact h2.elim
    | _ => exact h2.elim
  | int i =>
    cases d2 with
    | int j =>
      exfalso
      simp only [binop] at h2
      split at h2 <;> exact h2.elim
    | _ => exact h2.elim
  | tup as =>
    cases d2 with
    | int k =>
      exfalso
      simp only [binop] at h2
      split at h2 <;> exact h2.elim
    | _ => exact h2.elim
  | _ => cases d2 <;> exact h2.elim
theorem sf_rev {k : Nat} {p1 p2 p3 : Pos} (ha : SE RX Γ C gv K W x fa) : SF RX Γ C gv K W (.Subscript x (.Slice none none (some (.UnaryOp .USub (.Constant (.int 1) k p1) p2)) p3) pos) (asLF fun e => (fa e).bind fun a e => R.of (revop a) e) := by
  obtain ⟨ta, pa, qa⟩ := ha
  refine ⟨tRev K ta, fun X ok hK => by subst hK; exact ⟨pe_rev (pa X ok rfl), fun i y py spos hy hl hsw => ps_set (by rw [ok.hN]; exact ok.nd) hy hl.1 (pe_rev (pa X ok rfl)) rfl hl.2⟩, fun B e σ H Q rs h => ?_⟩
  refine qa B e σ H _ rs (FPost.bindA h fun d1 e1 v1 H1 _ rs1 _ r1 h1 => ?_)
  cases d1 with
  | lst ds =>
    obtain ⟨a, vs, e, _, s1, r⟩ := r1.unlst
    exact ⟨a, vs, e, .inl ⟨.inl (.inl s1), fun p hp => FPost.new rs1 h1 r.rev hp⟩⟩
  | _ => exact h1.elim
theorem sf_sl {lo hi : Option PySem.Expr} {p2 : Pos} {fl fh : Env → R (Option Int)} (ha : SE RX Γ C gv K W x fa) (hl : SP1 RX Γ C gv K W lo fl) (hh : SP1 RX Γ C gv K W hi fh) : SF RX Γ C gv K W (.Subscript x (.Slice lo hi none p2) pos) (asLF fun e => (fa e).bind fun x e => (fl e).bind fun l e => (fh e).bind fun h e => R.of (slop x l h) e) := by
  obtain ⟨ta, pa, qa⟩ := ha
  obtain ⟨tl, pl, ql⟩ := hl
  obtain ⟨th, ph, qh⟩ := hh
  refine ⟨tSl (rSlL K) ta tl th, fun X ok hK => by subst hK; exact ⟨pe_slice sl_list (pa X ok rfl) (pl X ok rfl) (ph X ok rfl), fun i y py spos hy hl hsw => ps_set (by rw [ok.hN]; exact ok.nd) hy hl.1 (pe_slice sl_list (pa X ok rfl) (pl X ok rfl) (ph X ok rfl)) rfl hl.2⟩, fun B e σ H Q rs h => ?_⟩
  refine qa B e σ H _ rs (FPost.bindA h fun d1 e1 v1 H1 _ rs1 _ r1 h1 => ?_)
  refine ql B e1 σ H1 _ rs1 (FPost.bindA h1 fun d2 e2 o2 H2 _ rs2 st2 r2 h2 => ?_)
  refine qh B e2 σ H2 _ rs2 (FPost.bindA h2 fun d3 e3 o3 H3 _ rs3 st3 r3 h3 => ?_)
  subst r2 r3
  have k1 := rs2.keep st3 (rs1.keep st2 r1)
  cases d1 with
  | lst ds =>
    obtain ⟨a, vs, e, _, s1, r⟩ := k1.unlst
    exact ⟨a, vs, e, .inl (.inl s1), fun p hp => FPost.new rs3 h3 (cut_rps r _ _) hp⟩
  | tup ds => exact h3.elim
  | _ => exact h3.elim
/-- list(x): a new list -/
def rLof (K : PySem.W.Frag) : List V → Hp → VK → Prop := fun xs H Q => ∃ p ys, xs = [.ref p] ∧ (SqL K H p ys ∨ SqT K H p ys) ∧ ∀ l, H l = none → Q (.ref l) (upd H l (.lst ys))
theorem sf_list {q : Pos} (hg : glB Γ "list" = true) (hst : isStar x = false) (ha : SE RX Γ C gv K W x fa) : SF RX Γ C gv K W (.Call (.Name "list" q) [x] [] pos) (asLF fun e => (fa e).bind fun a e => R.of (prim .list [a]) e) := by
  obtain ⟨ta, pa, qa⟩ := ha
  have P : ∀ X, Ok RX Γ C gv X W → X.K = K → PE X (.Call (.Name "list" q) [x] [] pos) (tCB (rLof K) (tCons ta tNil)) := fun X ok hK => by
    subst hK
    obtain ⟨g1, g2, g3⟩ := ok.gl hg
    exact pe_callTy (r := rLof X.K) call_list_of g1 (blt_of ok (by decide +kernel)) (by decide +kernel) (pa_one (pa X ok rfl) hst) g3 g2 (star_cons hst) rfl
  refine ⟨tCB (rLof K) (tCons ta tNil), fun X ok hK => by subst hK; exact ⟨P X ok rfl, fun i y py spos hy hl hsw => ps_set (by rw [ok.hN]; exact ok.nd) hy hl.1 (P X ok rfl) rfl hl.2⟩, fun B e σ H Q rs h => ?_⟩
  refine qa B e σ H _ rs (FPost.bindA h fun d1 e1 v1 H1 _ rs1 _ r1 h1 => ?_)
  cases d1 with
  | lst ds =>
    obtain ⟨a, vs, e, _, s1, r⟩ := r1.unlst
    exact ⟨a, vs, by rw [e], .inl (.inl (.inl s1)), fun p hp => FPost.new rs1 h1 r hp⟩
  | tup ds =>
    obtain ⟨a, vs, e, s1, r⟩ := r1.untup
    exact ⟨a, vs, by rw [e], .inr s1, fun p hp => FPost.new rs1 h1 r hp⟩
  | _ => exact h1.elim
theorem sf_lrng {q q2 p2 : Pos} (hg : glB Γ "list" = true) (hg2 : glB Γ "range" = true) (hst : isStar x = false) (ha : SE RX Γ C gv K W x fa) : SF RX Γ C gv K W (.Call (.Name "list" q) [.Call (.Name "range" q2) [x] [] p2] [] pos) (asLF fun e => (fa e).bind fun a e => R.of (frm .lrng a) e) := by
  obtain ⟨ta, pa, qa⟩ := ha
  have P : ∀ X, Ok RX Γ C gv X W → X.K = K → PE X (.Call (.Name "list" q) [.Call (.Name "range" q2) [x] [] p2] [] pos) (tLstRg (tRg1 ta)) := fun X ok hK => by
    subst hK
    obtain ⟨g1, g2, g3⟩ := ok.gl hg
    obtain ⟨k1, k2, k3⟩ := ok.gl hg2
    exact pe_listRg ok.calm g1 (blt_of ok (by decide +kernel)) (prg_1 k1 (blt_of ok (by decide +kernel)) (pa X ok rfl) (star_cons hst)) (star_cons rfl)
  refine ⟨tLstRg (tRg1 ta), fun X ok hK => by subst hK; exact ⟨P X ok rfl, fun i y py spos hy hl hsw => ps_set (by rw [ok.hN]; exact ok.nd) hy hl.1 (P X ok rfl) rfl hl.2⟩, fun B e σ H Q rs h => ?_⟩
  refine qa B e σ H _ rs (FPost.bindA h fun d1 e1 v1 H1 _ rs1 _ r1 h1 => ?_)
  cases d1 with
  | int n =>
    by_cases c : 0 ≤ n ∧ n ≤ 100000
    · have e0 : frm .lrng (.int n) = some (.lst (range_ 0 n.toNat)) := by simp only [frm]; rw [if_pos c]
      rw [e0] at h1
      refine ⟨n, r1.unint, RgOk.of_le (by omega) (by omega) (by omega) (by omega), fun p hp => ?_⟩
      have r := rps_rng (K := K) (O := Of B e1 σ) (H := H1) n.toNat 0
      have e2 : rgV 0 n = (List.range n.toNat).map fun i => V.int ((0 : Int) + (i : Nat)) := by
        unfold rgV
        rw [Int.sub_zero]
      rw [e2]
      exact FPost.new rs1 h1 r hp
    · have e0 : frm .lrng (.int n) = none := by simp only [frm]; rw [if_neg c]
      rw [e0] at h1
      exact h1.elim
  | _ => exact h1.elim
theorem ss_ownN {i : Nat} {n : Str} {py : Pos} (hi : Γ.N[i]? = some n) (hst : stB Γ n = true) (hsw : (!isComp x || (swB Γ n py x || !decide (Γ.sc.names.lookup n = some .local))) = true) (hio : (!(io && i == 0)) = true) (ha : SF RX Γ C gv K W x (asLF fa)) : SS RX Γ C gv K W io (.Assign [.Name n py] x pos) fun e => (fa e).bind fun d e => match d with
    | .lst ds => .ok .nx (e.set i (some (Sl.own ds)))
    | .dic ds => .ok .nx (e.set i (some (Sl.dic ds)))
    | _ => .no := by
  have q := ss_own (io := io) (pos := pos) hi hst hsw hio (fun e => asL_new) ha
  have e0 : (fun e => (asLF fa e).bind fun d e => match d with
    | .lst ds => R.ok Fl.nx (e.set i (some (Sl.own ds)))
    | .dic ds => R.ok Fl.nx (e.set i (some (Sl.dic ds)))
    | _ => R.no) = fun e => (fa e).bind fun d e => match d with
    | .lst ds => R.ok Fl.nx (e.set i (some (Sl.own ds)))
    | .dic ds => R.ok Fl.nx (e.set i (some (Sl.dic ds)))
    | _ => R.no := by
    funext e
    unfold asLF asL
    cases fa e with
    | ok d e1 => cases d <;> rfl
    | ex _ _ => rfl
    | no => rfl
  exact e0 ▸ q
/-! ### rows of values and of new lists -/
theorem RSt.weak {B B' : Addr → Prop} {e : Env} {σ : L2.St} {H : Hp} (rs : RSt K B' H e σ) (h : ∀ a, B a → B' a) : RSt K B H e σ := by
  have of : ∀ a, Of B e σ a → Of B' e σ a := fun a q => q.elim (fun z => .inl (h a z)) .inr
  refine ⟨rs.len, fun i d q => ?_, fun i _ ds q => ?_, rs.inj, fun a q => rs.bnd a (h a q), rs.tb⟩
  · obtain ⟨v, w1, w2⟩ := rs.val i d q
    exact ⟨v, w1, Rp.mono (S := fun _ => False) ⟨fun _ _ q _ _ => q, fun _ z => z.elim⟩ (fun _ z => z.elim) (fun b q => .inl (of b q)) w2⟩
  · obtain ⟨a, us, w1, w2, w3, w4⟩ := rs.own i ds q
    exact ⟨a, us, w1, fun z => w2 (h a z), w3, Rpo.mono (S := fun _ => False) ⟨fun _ _ q _ _ => q, fun _ z => z.elim⟩ (fun _ z => z.elim) (fun b q => .inl (of b q)) w4⟩
/-- what a row has given so far: values, and new lists that stand among ps -/
def Holds (K : PySem.W.Frag) (O : Addr → Prop) (H : Hp) : List Addr → List Bool → List D → List V → Prop
  | ps, [], ds, vs => ps = [] ∧ ds = [] ∧ vs = []
  | ps, false :: os, ds, vs => ∃ d v ds' vs', ds = d :: ds' ∧ vs = v :: vs' ∧ Rp K O H d v ∧ Holds K O H ps os ds' vs'
  | ps, true :: os, ds, vs => ∃ m l p us ps' ds' vs', ps = p :: ps' ∧ ds = unD m l :: ds' ∧ vs = .ref p :: vs' ∧ LOs H p m l us ∧ Rpo K O H m l us ∧ Holds K O H ps' os ds' vs'
theorem Holds.mono {S O O' : Addr → Prop} {H H' : Hp} (f : Fr S H H') (hS : ∀ a, S a → O a) (hO : ∀ a, O' a → O a ∨ H a = none) : ∀ {os : List Bool} {ps : List Addr} {ds : List D} {vs : List V}, (∀ p ∈ ps, ¬ S p) → Holds K O H ps os ds vs → Holds K O' H' ps os ds vs
  | [], ps, ds, vs, _, h => h
  | false :: os, ps, ds, vs, n, h => by
    obtain ⟨d, v, ds', vs', e1, e2, r, h'⟩ := h
    exact ⟨d, v, ds', vs', e1, e2, Rp.mono f hS hO r, Holds.mono f hS hO n h'⟩
  | true :: os, ps, ds, vs, n, h => by
    obtain ⟨m, l, p, us, ps', ds', vs', e0, e1, e2, hp, r, h'⟩ := h
    subst e0
    exact ⟨m, l, p, us, ps', ds', vs', rfl, e1, e2, hp.fr f (n p List.mem_cons_self), Rpo.mono f hS hO r, Holds.mono f hS hO (fun q hq => n q (List.mem_cons_of_mem _ hq)) h'⟩
theorem Holds.len {O : Addr → Prop} {H : Hp} : ∀ {os : List Bool} {ps : List Addr} {ds : List D} {vs : List V}, Holds K O H ps os ds vs → vs.length = os.length
  | [], ps, ds, vs, h => by rw [h.2.2]; rfl
  | false :: os, ps, ds, vs, h => by
    obtain ⟨d, v, ds', vs', e1, e2, r, h'⟩ := h
    rw [e2, List.length_cons, List.length_cons, h'.len]
  | true :: os, ps, ds, vs, h => by
    obtain ⟨m, l, p, us, ps', ds', vs', e0, e1, e2, hp, r, h'⟩ := h
    rw [e2, List.length_cons, List.length_cons, h'.len]
def putVs : List Nat → List V → L2.St → L2.St
  | i :: is, v :: vs, σ => putVs is vs (σ.set i (some v))
  | _, _, σ => σ
/-- the parts of a row are put into their slots -/
theorem settle {B : Addr → Prop} : ∀ {os : List Bool} {is : List Nat} {B1 : Addr → Prop} {ps : List Addr} {ds : List D} {vs : List V} {e : Env} {σ : L2.St} {H : Hp} {ss : List Sl}, is.length = os.length → RSt K B1 H e σ → (∀ a, B1 a ↔ B a ∨ a ∈ ps) → (∀ p ∈ ps, ¬ B p) → ps.Nodup → Holds K (Of B1 e σ) H ps os ds vs → slsOf os ds = some ss →
    RSt K B H (putRow is ss e) (putVs is vs σ) ∧ ∀ a, OwnAt (putRow is ss e) (putVs is vs σ) a → OwnAt e σ a ∨ a ∈ ps := by
  intro os
  induction os with
  | nil =>
    intro is B1 ps ds vs e σ H ss hl rs hB hn hd hh hs
    obtain ⟨rfl, rfl, rfl⟩ := hh
    cases hs
    cases is with
    | nil => exact ⟨rs.weak fun a q => (hB a).mpr (.inl q), fun a q => .inl q⟩
    | cons _ _ => cases hl
  | cons o os ih =>
    intro is B1 ps ds vs e σ H ss hl rs hB hn hd hh hs
    cases is with
    | nil => cases hl
    | cons i is =>
    replace hl : is.length = os.length := Nat.succ.inj hl
    cases o with
    | false =>
      obtain ⟨d, v, ds', vs', rfl, rfl, r, hh⟩ := hh
      have hs : ((some (Sl.val d) : Option Sl).bind fun s => (slsOf os ds').map fun ss => s :: ss) = some ss := hs
      cases z : slsOf os ds' with
      | none => rw [z] at hs; cases hs
      | some ss' =>
        rw [z] at hs
        cases hs
        obtain ⟨r1, s1⟩ := rs.put (i := i) r
        obtain ⟨k1, k2⟩ := ih hl r1 hB hn hd (Holds.mono (S := fun _ => False) ⟨fun _ _ q _ _ => q, fun _ z => z.elim⟩ (fun _ z => z.elim) (fun a q => s1.of_ a q) (fun _ _ z => z) hh) z
        refine ⟨k1, fun a q => ?_⟩
        rcases k2 a q with w | w
        · rcases s1.sub a w with w' | w'
          · exact .inl w'
          · obtain ⟨us, q', _⟩ := r1.ls w
            rw [w'] at q'; cases q'
        · exact .inr w
    | true =>
      obtain ⟨m, l, p, us, ps', ds', vs', rfl, rfl, rfl, hp, r, hh⟩ := hh
      have hs : ((some (Sl.ow m l) : Option Sl).bind fun s => (slsOf os ds').map fun ss => s :: ss) = some ss := by
        cases m <;> exact hs
      cases z : slsOf os ds' with
      | none => rw [z] at hs; cases hs
      | some ss' =>
        rw [z] at hs
        cases hs
        have hBp : B1 p := (hB p).mpr (.inr List.mem_cons_self)
        have eB : B1 = With (fun a => B1 a ∧ a ≠ p) p := by
          funext a
          apply propext
          constructor
          · intro q
            by_cases w : a = p
            · exact .inr w
            · exact .inl ⟨q, w⟩
          · intro q
            rcases q with q | q
            · exact q.1
            · rw [q]; exact hBp
        have rs' : RSt K (With (fun a => B1 a ∧ a ≠ p) p) H e σ := eB ▸ rs
        have r' : Rpo K (Of (With (fun a => B1 a ∧ a ≠ p) p) e σ) H m l us := eB ▸ r
        obtain ⟨r1, s1⟩ := rs'.adopt (fun w => w.2 rfl) (i := i) hp r'
        have hd' := List.nodup_cons.mp hd
        obtain ⟨k1, k2⟩ := ih (ps := ps') hl r1 (fun a => by
          constructor
          · intro q
            rcases (hB a).mp q.1 with w | w
            · exact .inl w
            · rcases List.mem_cons.mp w with w | w
              · exact absurd w q.2
              · exact .inr w
          · intro q
            rcases q with w | w
            · exact ⟨(hB a).mpr (.inl w), fun e => hn p List.mem_cons_self (by rw [← e]; exact w)⟩
            · exact ⟨(hB a).mpr (.inr (List.mem_cons_of_mem _ w)), fun e => hd'.1 (by rw [← e]; exact w)⟩) (fun q hq => hn q (List.mem_cons_of_mem _ hq)) hd'.2
          (Holds.mono (S := fun _ => False) (O := Of B1 e σ) ⟨fun _ _ q _ _ => q, fun _ z => z.elim⟩ (fun _ z => z.elim) (fun a q => by
            rcases q with q | q
            · exact .inl (.inl q.1)
            · rcases s1 a q with w | w
              · exact .inl (.inr w)
              · exact .inl (.inl (by rw [w]; exact hBp))) (fun _ _ z => z) hh) z
        refine ⟨k1, fun a q => ?_⟩
        rcases k2 a q with w | w
        · rcases s1 a w with w' | w'
          · exact .inl w'
          · exact .inr (by rw [w']; exact List.mem_cons_self)
        · exact .inr (List.mem_cons_of_mem _ w)
def VPost (RX : RXT) (K : PySem.W.Frag) (W : WX) (B : Addr → Prop) (e : Env) (σ : L2.St) (H : Hp) (os : List Bool) (r : R (List D)) (Q : List V → Hp → Prop) : Prop := match r with
  | .ok ds e1 => ∀ (B' : Addr → Prop) (ps : List Addr) (vs : List V) (H1 : Hp), RSt K B' H1 e1 σ → Stp H e σ H1 e1 σ → (∀ a, B' a ↔ B a ∨ a ∈ ps) → (∀ p ∈ ps, H p = none) → ps.Nodup → Holds K (Of B' e1 σ) H1 ps os ds vs → Q vs H1
  | .ex x e1 => ∀ c dd H', RSt K B H' e1 σ → Stp H e σ H' e1 σ → RX x c dd H' → W c dd σ H'
  | .no => False
theorem VPost.mono {B : Addr → Prop} {e : Env} {σ : L2.St} {H : Hp} {os : List Bool} {r : R (List D)} {Q Q' : List V → Hp → Prop} (h : VPost RX K W B e σ H os r Q) (k : ∀ vs H1, Q vs H1 → Q' vs H1) : VPost RX K W B e σ H os r Q' := by
  cases r with
  | ok ds e1 => exact fun B' ps vs H1 a b c d e f => k _ _ (h B' ps vs H1 a b c d e f)
  | ex x e1 => exact h
  | no => exact h
def SVL (RX : RXT) (Γ : Gam) (C : Ctx) (gv : Nat → V) (K : PySem.W.Frag) (W : WX) (os : List Bool) (es : List PySem.Expr) (f : Env → R (List D)) : Prop := ∃ t, (∀ X, Ok RX Γ C gv X W → X.K = K → PA X es t) ∧ ∀ (B : Addr → Prop) e σ H Q, RSt K B H e σ → VPost RX K W B e σ H os (f e) Q → t σ H Q
theorem svl_nil : SVL RX Γ C gv K W [] [] fun e => .ok [] e := ⟨tNil, fun X ok hK => pa_nil, fun B e σ H Q rs h => h B [] [] H rs .refl (fun a => ⟨.inl, fun q => q.elim id fun z => by cases z⟩) (fun p z => by cases z) List.nodup_nil ⟨rfl, rfl, rfl⟩⟩
theorem none_back {H H1 : Hp} {e e1 : Env} {σ : L2.St} (st : Stp H e σ H1 e1 σ) {p : Addr} (h : H1 p = none) : H p = none := by
  cases z : H p with
  | none => rfl
  | some o => exact absurd h (st.al p (by rw [z]; exact fun w => by cases w))
variable {os : List Bool} {es : List PySem.Expr} {fs : Env → R (List D)}
theorem svl_val (hs : isStar x = false) (ha : SE RX Γ C gv K W x fa) (hr : SVL RX Γ C gv K W os es fs) : SVL RX Γ C gv K W (false :: os) (x :: es) fun e => (fa e).bind fun x e => (fs e).bind fun xs e => .ok (x :: xs) e := by
  obtain ⟨ta, pa, qa⟩ := ha
  obtain ⟨tr, pr, qr⟩ := hr
  refine ⟨tCons ta tr, fun X ok hK => pa_cons (pa X ok hK) (pr X ok hK) (star_cons hs), fun B e σ H Q rs h => qa B e σ H _ rs ?_⟩
  replace h : VPost RX K W B e σ H (false :: os) ((fa e).bind fun x e => (fs e).bind fun xs e => .ok (x :: xs) e) Q := h
  cases hfa : fa e with
  | no => rw [hfa] at h; exact h.elim
  | ex ev e1 => rw [hfa] at h; exact h
  | ok d e1 =>
    rw [hfa] at h
    intro v H1 rs1 st1 r1
    refine qr B e1 σ H1 _ rs1 ?_
    replace h : VPost RX K W B e σ H (false :: os) ((fs e1).bind fun xs e => .ok (d :: xs) e) Q := h
    cases hfs : fs e1 with
    | no => rw [hfs] at h; exact h.elim
    | ex ev e2 => rw [hfs] at h; exact fun c dd H' rs' st' rx => h c dd H' rs' (st1.trans st') rx
    | ok ds e2 =>
      rw [hfs] at h
      intro B' ps vs H2 rs2 st2 hB hn hnd hh
      refine h B' ps (v :: vs) H2 rs2 (st1.trans st2) hB (fun p hp => none_back st1 (hn p hp)) hnd ⟨d, v, ds, vs, rfl, rfl, Rp.mono (rs1.frame st2) (fun a q => .inr q) (fun a q => ?_) r1, hh⟩
      rcases q with q | q
      · rcases (hB a).mp q with w | w
        · exact .inl (.inl w)
        · exact .inr (hn a w)
      · exact (st2.sub a q).imp .inr id
theorem svl_new (hs : isStar x = false) (ha : SF RX Γ C gv K W x (asLF fa)) (hr : SVL RX Γ C gv K W os es fs) : SVL RX Γ C gv K W (true :: os) (x :: es) fun e => (asL (fa e)).bind fun x e => (fs e).bind fun xs e => .ok (x :: xs) e := by
  obtain ⟨ta, pa, qa⟩ := ha
  obtain ⟨tr, pr, qr⟩ := hr
  refine ⟨tCons ta tr, fun X ok hK => pa_cons (pa X ok hK).1 (pr X ok hK) (star_cons hs), fun B e σ H Q rs h => qa B e σ H _ rs ?_⟩
  replace h : VPost RX K W B e σ H (true :: os) ((asL (fa e)).bind fun x e => (fs e).bind fun xs e => .ok (x :: xs) e) Q := h
  cases hfa : asLF fa e with
  | no => rw [show asL (fa e) = R.no from hfa] at h; exact h.elim
  | ex ev e1 => rw [show asL (fa e) = R.ex ev e1 from hfa] at h; exact h
  | ok d e1 =>
    refine FPost.one (asL_new d e1 hfa) fun m l ed p us H1 hp rs1 st1 hp1 rl => ?_
    subst ed
    rw [show asL (fa e) = R.ok (unD m l) e1 from hfa] at h
    refine qr (With B p) e1 σ H1 _ rs1 ?_
    replace h : VPost RX K W B e σ H (true :: os) ((fs e1).bind fun xs e => .ok (unD m l :: xs) e) Q := h
    cases hfs : fs e1 with
    | no => rw [hfs] at h; exact h.elim
    | ex ev e2 => rw [hfs] at h; exact fun c dd H' rs' st' rx => h c dd H' (rs'.weak fun a q => .inl q) (st1.trans st') rx
    | ok ds e2 =>
      rw [hfs] at h
      intro B' ps vs H2 rs2 st2 hB hn hnd hh
      refine h B' (p :: ps) (.ref p :: vs) H2 rs2 (st1.trans st2) (fun a => ?_) (fun q hq => ?_) (List.nodup_cons.mpr ⟨fun w => ?_, hnd⟩) ⟨m, l, p, us, ps, ds, vs, rfl, rfl, rfl, hp1.fr (rs1.frame st2) (rs1.notOwn (.inr rfl)), Rpo.mono (rs1.frame st2) (fun a q => .inr q) (fun a q => ?_) rl, hh⟩
      · rw [hB a]
        constructor
        · intro q
          rcases q with (q | q) | q
          · exact .inl q
          · exact .inr (by rw [q]; exact List.mem_cons_self)
          · exact .inr (List.mem_cons_of_mem _ q)
        · intro q
          rcases q with q | q
          · exact .inl (.inl q)
          · rcases List.mem_cons.mp q with q | q
            · exact .inl (.inr q)
            · exact .inr q
      · rcases List.mem_cons.mp hq with rfl | hq
        · exact hp
        · exact none_back st1 (hn q hq)
      · have := hn p w
        obtain ⟨_, hp1, _⟩ := hp1.at
        rw [hp1] at this
        cases this
      · rcases q with q | q
        · rcases (hB a).mp q with w | w
          · exact .inl (.inl w)
          · exact .inr (hn a w)
        · exact (st2.sub a q).imp .inr id
/-- behind a row: its parts are put into their slots -/
theorem row_end {B : Addr → Prop} {e : Env} {σ : L2.St} {H : Hp} {is : List Nat} {D : Ends} {r : R (List Ev.D)} (rs : RSt K B H e σ) (hl : is.length = os.length) (hio : ∀ σ vs, io = true → (putVs is vs σ)[0]? = σ[0]?) (h : PostS RX K W io B e σ H (r.bind fun ds e => match slsOf os ds with
    | some ss => .ok .nx (putRow is ss e)
    | none => .no) D) : VPost RX K W B e σ H os r fun vs H1 => vs.length = os.length ∧ D.nx (putVs is vs σ) H1 := by
  cases r with
  | no => exact h
  | ex x e1 => exact fun c dd H' rs' st rx => h σ c dd H' rs' st rx
  | ok ds e1 =>
    intro B' ps vs H1 rs1 st1 hB hn hnd hh
    replace h : PostS RX K W io B e σ H (match slsOf os ds with
      | some ss => .ok .nx (putRow is ss e1)
      | none => .no) D := h
    cases z : slsOf os ds with
    | none => rw [z] at h; exact h.elim
    | some ss =>
      rw [z] at h
      obtain ⟨k1, k2⟩ := settle hl rs1 hB (fun p hp w => by
        obtain ⟨us, q, _⟩ := rs.bnd p w
        rw [hn p hp] at q; cases q) hnd hh z
      refine ⟨hh.len, h _ H1 k1 ⟨st1.fr, st1.al, fun a q => ?_⟩ (hio σ vs)⟩
      rcases k2 a q with w | w
      · exact st1.sub a w
      · exact .inr (hn a w)
end
end Ev
set_option Elab.async false
set_option linter.all false
set_option maxRecDepth 100000
set_option maxHeartbeats 4000000
set_option autoImplicit false
/-! Ev12: the rest of the statements; every statement. -/
namespace Ev
open PySem PySem.Spec PyProof.Rows L2
variable [TabT]
section
variable {RX : RXT} {Γ : Gam} {C : Ctx} {gv : Nat → V} {K : PySem.W.Frag} {W : WX} {io : Bool} {pos : Pos} {x y z : PySem.Expr} {fa fb fc : Env → R D} {f g : Env → R Fl} {st : PySem.Stmt} {sts sts2 : List PySem.Stmt}
/-! ### a, b = x, y -/
def locB (Γ : Gam) (n : Str) : Bool := decide (Γ.sc.names.lookup n = some .local)
def okI (io : Bool) (i : Nat) : Bool := !(io && i == 0)
theorem getE_inj {l : List Str} (h : l.Nodup) {i j : Nat} {a b : Str} (hi : l[i]? = some a) (hj : l[j]? = some b) (hne : i ≠ j) : a ≠ b := fun e => by
  subst e
  exact hne (nodup_ix h hi hj)
theorem sole_no {tg x : PySem.Expr} {l : Nat} {env : PySem.Env} (h : isComp x = false) : swapsWithSole [tg] x l env = pure false := by
  show swapsWith x (some tg) l env = pure false
  exact swaps_no h
/-- an item of a list read, any sign -/
theorem get_list {X : Cx} : PGet X (rIxL X.K) := by
  intro pins s σ H x y v u Q I rx ry h
  obtain ⟨p, xs, i, z, rfl, rfl, hq, he, q⟩ := h
  cases rx
  obtain ⟨t, rfl⟩ := ry
  obtain ⟨its, r, pl, hz⟩ := I.list hq
  obtain ⟨j, h1, h2, h3, h4, h5⟩ := atI_get he
  obtain ⟨w, ew, rw'⟩ := r.get h2
  have hl := r.length
  have hn := line63
  have fin : EP X pins σ Q w s := ⟨z, H, I, rw', q⟩
  by_cases h0 : 0 ≤ i
  · have hj : i.toNat = j := by
      rw [seqIndex_of h0 h5] at h1
      exact Option.some.inj h1
    exact wpAny_getItem_list pl.isList h0 (by omega) (by rw [hj]; simpa using ew) fin
  · have hj : (i + (its.toArray.size : Int)).toNat = j := by
      rw [seqIndex_neg (by omega) h4] at h1
      rw [List.size_toArray, ← hl]
      exact Option.some.inj h1
    exact wpAny_getItem_list_neg pl.isList (by omega) (by rw [List.size_toArray] <;> omega) (by omega) (by rw [hj]; simpa using ew) fin
theorem ss_par2 {i j : Nat} {n m : Str} {px py pt pt2 : Pos} {kt k2 : Nat} (hi : Γ.N[i]? = some n) (hj : Γ.N[j]? = some m) (hij : i ≠ j) (hn : locB Γ n = true) (hm : locB Γ m = true) (i0 : okI io i = true) (j0 : okI io j = true)
    (hw : sw2B px py [x, y] = true) (ha : SE RX Γ C gv K W x fa) (hb : SE RX Γ C gv K W y fb) :
    SS RX Γ C gv K W io (.Assign [.Tuple [.Name n px, .Name m py] kt pt] (.Tuple [x, y] k2 pt2) pos) fun e => (fa e).bind fun a e => (fb e).bind fun b e => .ok .nx ((e.set i (some (.val a))).set j (some (.val b))) := by
  obtain ⟨t, p, q⟩ := ha
  obtain ⟨u, p2, q2⟩ := hb
  have hst : noStar [x, y] = true := by
    unfold sw2B at hw
    exact (and2 (and2 (and2 hw).2).2).2
  obtain ⟨s1, s2⟩ := noStar_cons hst
  obtain ⟨s2, s3⟩ := noStar_cons s2
  refine ⟨tPar i j (tCons t (tCons u tNil)), fun X ok hK => ?_, fun B e σ H D rs h => ?_⟩
  · have hx : X.env.scope.names.lookup n = some .local := by rw [ok.hsc]; exact of_decide_eq_true hn
    have hy : X.env.scope.names.lookup m = some .local := by rw [ok.hsc]; exact of_decide_eq_true hm
    exact ps_par ok.calm (by rw [ok.hN]; exact ok.nd) (by rw [ok.hN]; exact hi) (by rw [ok.hN]; exact hj) hij hx hy (pa_cons (p X ok.toOk hK) (pa_cons (p2 X ok.toOk hK) pa_nil (star_cons s2)) (star_cons s1))
      (sw2_ok (by rw [ok.hsc]; exact ok.kd) hx hy (getE_inj ok.nd hi hj hij) hw) rfl
  · refine q B e σ H _ rs (PostS.bindE h fun a e1 v1 H1 _ rs1 _ r1 h1 => ?_)
    refine q2 B e1 σ H1 _ rs1 (PostS.bindE h1 fun b e2 v2 H2 _ rs2 st2 r2 h2 => ?_)
    refine ⟨v1, v2, rfl, ?_⟩
    obtain ⟨rs3, st3⟩ := rs2.put (i := i) (rs1.keep st2 r1)
    obtain ⟨rs4, st4⟩ := rs3.put (i := j) (rs2.keep st3 r2)
    exact h2 _ H2 rs4 (st3.trans st4) fun z => by rw [set_pin j0 z, set_pin i0 z]
theorem putV_pin {io : Bool} : ∀ {is : List Nat} {vs : List V} {σ : L2.St}, (is.all fun i => okI io i) = true → io = true → (putVs is vs σ)[0]? = σ[0]?
  | [], vs, σ, _, _ => by cases vs <;> rfl
  | i :: is, [], σ, _, _ => rfl
  | i :: is, v :: vs, σ, h, k => by
    rw [List.all_cons] at h
    obtain ⟨h1, h2⟩ := and2 h
    show (putVs is vs (σ.set i (some v)))[0]? = σ[0]?
    rw [putV_pin h2 k, set_pin h1 k]
theorem len2 {a : Type} {l : List a} (h : l.length = 2) : ∃ x y, l = [x, y] := by
  match l, h with
  | [x, y], _ => exact ⟨x, y, rfl⟩
theorem len3 {a : Type} {l : List a} (h : l.length = 3) : ∃ x y z, l = [x, y, z] := by
  match l, h with
  | [x, y, z], _ => exact ⟨x, y, z, rfl⟩
theorem ss_parN2 {i j : Nat} {os : List Bool} {n m : Str} {px py pt pt2 : Pos} {kt k2 : Nat} {fr : Env → R (List D)} (hi : Γ.N[i]? = some n) (hj : Γ.N[j]? = some m) (hij : i ≠ j) (hn : locB Γ n = true) (hm : locB Γ m = true) (hio : ([i, j].all fun i => okI io i) = true)
    (hw : sw2B px py [x, y] = true) (hos : os.length = 2) (ha : SVL RX Γ C gv K W os [x, y] fr) :
    SS RX Γ C gv K W io (.Assign [.Tuple [.Name n px, .Name m py] kt pt] (.Tuple [x, y] k2 pt2) pos) fun e => (fr e).bind fun ds e => match slsOf os ds with
      | some ss => .ok .nx (putRow [i, j] ss e)
      | none => .no := by
  obtain ⟨t, p, q⟩ := ha
  refine ⟨tPar i j t, fun X ok hK => ?_, fun B e σ H D rs h => ?_⟩
  · have hx : X.env.scope.names.lookup n = some .local := by rw [ok.hsc]; exact of_decide_eq_true hn
    have hy : X.env.scope.names.lookup m = some .local := by rw [ok.hsc]; exact of_decide_eq_true hm
    exact ps_par ok.calm (by rw [ok.hN]; exact ok.nd) (by rw [ok.hN]; exact hi) (by rw [ok.hN]; exact hj) hij hx hy (p X ok.toOk hK)
      (sw2_ok (by rw [ok.hsc]; exact ok.kd) hx hy (getE_inj ok.nd hi hj hij) hw) rfl
  · have k := row_end (is := [i, j]) (io := io) rs (by rw [hos]; rfl) (fun σ vs => putV_pin hio) h
    refine q B e σ H _ rs (VPost.mono k fun vs H1 z => ?_)
    obtain ⟨v, w, rfl⟩ := len2 (z.1.trans hos)
    exact ⟨v, w, rfl, z.2⟩
theorem ss_parN3 {i j l : Nat} {os : List Bool} {n m o : Str} {px py pz pt pt2 : Pos} {kt k2 : Nat} {fr : Env → R (List D)} (hi : Γ.N[i]? = some n) (hj : Γ.N[j]? = some m) (hl : Γ.N[l]? = some o) (hij : i ≠ j) (hil : i ≠ l) (hjl : j ≠ l) (hn : locB Γ n = true) (hm : locB Γ m = true) (ho : locB Γ o = true) (hio : ([i, j, l].all fun i => okI io i) = true)
    (hw : sw2B px py [x, y, z] = true) (hp : (pz.line == px.line) = true) (hos : os.length = 3) (ha : SVL RX Γ C gv K W os [x, y, z] fr) :
    SS RX Γ C gv K W io (.Assign [.Tuple [.Name n px, .Name m py, .Name o pz] kt pt] (.Tuple [x, y, z] k2 pt2) pos) fun e => (fr e).bind fun ds e => match slsOf os ds with
      | some ss => .ok .nx (putRow [i, j, l] ss e)
      | none => .no := by
  obtain ⟨t, p, q⟩ := ha
  refine ⟨tPar3 i j l t, fun X ok hK => ?_, fun B e σ H D rs h => ?_⟩
  · have hx : X.env.scope.names.lookup n = some .local := by rw [ok.hsc]; exact of_decide_eq_true hn
    have hy : X.env.scope.names.lookup m = some .local := by rw [ok.hsc]; exact of_decide_eq_true hm
    have hz : X.env.scope.names.lookup o = some .local := by rw [ok.hsc]; exact of_decide_eq_true ho
    exact ps_par3 ok.calm (by rw [ok.hN]; exact ok.nd) (by rw [ok.hN]; exact hi) (by rw [ok.hN]; exact hj) (by rw [ok.hN]; exact hl) hij hil hjl hx hy hz (p X ok.toOk hK)
      (sw3_ok (by rw [ok.hsc]; exact ok.kd) hx hy hz (getE_inj ok.nd hi hj hij) (getE_inj ok.nd hi hl hil) (getE_inj ok.nd hj hl hjl) hw hp) rfl
  · have k := row_end (is := [i, j, l]) (io := io) rs (by rw [hos]; rfl) (fun σ vs => putV_pin hio) h
    refine q B e σ H _ rs (VPost.mono k fun vs H1 z => ?_)
    obtain ⟨v, w, u, rfl⟩ := len3 (z.1.trans hos)
    exact ⟨v, w, u, rfl, z.2⟩
/-! ### a row kept as a tuple and taken apart: names that inner blocks read, or more than three -/
def noSwB (Γ : Gam) (ts es : List PySem.Expr) : Bool := !(ts.length == 2 || ts.length == 3) || (es.all (foldedForSure 8) || ts.any fun t => match t with
  | .Name n _ => !decide (Γ.sc.names.lookup n = some .local)
  | _ => true)
theorem fm_less {a b : Type} {f : a → Option b} : ∀ {l : List a}, (l.any fun x => (f x).isNone) = true → (l.filterMap f).length < l.length
  | [], h => by cases h
  | x :: l, h => by
    rw [List.any_cons, Bool.or_eq_true] at h
    rw [List.filterMap_cons]
    have le := List.length_filterMap_le f l
    rcases h with h | h
    · cases z : f x with
      | none => simp only [List.length_cons]; omega
      | some y => rw [z] at h; cases h
    · have := fm_less h
      cases z : f x with
      | none => simp only [List.length_cons]; omega
      | some y => simp only [List.length_cons]; omega
theorem swapped_none {Γ : Gam} {env : PySem.Env} {ts es : List PySem.Expr} {kt k2 : Nat} {pt pt2 : Pos} (hsc : env.scope = Γ.sc) (h : noSwB Γ ts es = true) : swappedStores [.Tuple ts kt pt] (.Tuple es k2 pt2) env = pure none := by
  unfold noSwB at h
  rw [Bool.or_eq_true, Bool.or_eq_true] at h
  unfold swappedStores
  show (if (!(ts.length == 2 || ts.length == 3) || es.length != ts.length || env.blockKind != .function) = true then _ else _) = _
  by_cases c1 : (!(ts.length == 2 || ts.length == 3) || es.length != ts.length || env.blockKind != .function) = true
  · rw [if_pos c1]
  rw [if_neg c1]
  split
  · rfl
  · rcases h with h | h | h
    · rw [h] at c1
      exact absurd rfl c1
    · simp only [h, if_true]
      split <;> rfl
    · have lt : ∀ l : Nat, (ts.filterMap fun x => match x with
          | .Name id pos => if (env.kindOf id == some .local && pos.line == l) = true then some id else none
          | _ => none).length < ts.length := fun l => by
        refine fm_less ?_
        rw [List.any_eq_true] at h ⊢
        obtain ⟨t, h1, h2⟩ := h
        refine ⟨t, h1, ?_⟩
        cases t with
        | Name n p =>
          have h2 : Γ.sc.names.lookup n ≠ some .local := by simpa using h2
          have : (env.kindOf n == some NameKind.local) = false := by
            show (env.scope.names.lookup n == _) = false
            rw [hsc]
            exact beq_eq_false_iff_ne.mpr h2
          simp [this]
        | _ => rfl
      rw [if_pos]
      rw [Bool.or_eq_true]
      refine .inl ?_
      rw [bne_iff_ne]
      exact Nat.ne_of_lt (lt _)
def gNames : List Nat → TGs
  | [] => gNil
  | i :: is => gCons (gName i) (gNames is)
theorem gNames_i : ∀ {is : List Nat} {vs : List V} {σ : L2.St} {H : Hp} {Q : L2.St → Hp → Prop}, vs.length = is.length → Q (putVs is vs σ) H → gNames is vs σ H Q
  | [], vs, σ, H, Q, h, q => by
    cases vs with
    | nil => exact ⟨rfl, q⟩
    | cons _ _ => cases h
  | i :: is, vs, σ, H, Q, h, q => by
    cases vs with
    | nil => cases h
    | cons v vs => exact ⟨v, vs, rfl, gNames_i (Nat.succ.inj h) q⟩
def rowC (Γ : Gam) (io : Bool) : List Nat → List PySem.Expr → Bool
  | i :: is, t :: ts => (asName t fun n => decide (Γ.N[i]? = some n) && (stB Γ n && okI io i)) && rowC Γ io is ts
  | [], [] => true
  | _, _ => false
theorem rowC_pg {X : Cx} (ok : Ok RX Γ C gv X W) : ∀ {is : List Nat} {ts : List PySem.Expr}, rowC Γ io is ts = true → PGs X ts (gNames is) ∧ noStar ts = true ∧ ts.length = is.length ∧ (is.all fun i => okI io i) = true
  | [], [], _ => ⟨pgs_nil, rfl, rfl, rfl⟩
  | [], _ :: _, h => by cases h
  | _ :: _, [], h => by cases h
  | i :: is, t :: ts, h => by
    obtain ⟨h1, h2⟩ := and2 h
    obtain ⟨n, p, rfl, h1⟩ := asName_i h1
    obtain ⟨h3, h4⟩ := and2 h1
    obtain ⟨h5, h6⟩ := and2 h4
    obtain ⟨k1, k2, k3, k4⟩ := rowC_pg ok h2
    obtain ⟨s1, s2⟩ := ok.st h5
    refine ⟨pgs_cons (pg_name (by rw [ok.hN]; exact ok.nd) (by rw [ok.hN]; exact of_decide_eq_true h3) s1 s2) k1, ?_, ?_, ?_⟩
    · unfold noStar at k2 ⊢
      rw [List.all_cons, k2]
      rfl
    · rw [List.length_cons, List.length_cons, k3]
    · rw [List.all_cons, h6, k4]
      rfl
theorem rowC_s {is : List Nat} {ts : List PySem.Expr} (h : rowC Γ io is ts = true) : noStar ts = true ∧ ts.length = is.length ∧ (is.all fun i => okI io i) = true := by
  induction is generalizing ts with
  | nil => cases ts with
    | nil => exact ⟨rfl, rfl, rfl⟩
    | cons _ _ => cases h
  | cons i is ih => cases ts with
    | nil => cases h
    | cons t ts =>
      obtain ⟨h1, h2⟩ := and2 h
      obtain ⟨n, p, rfl, h1⟩ := asName_i h1
      obtain ⟨h3, h4⟩ := and2 h1
      obtain ⟨h5, h6⟩ := and2 h4
      obtain ⟨k2, k3, k4⟩ := ih h2
      refine ⟨?_, ?_, ?_⟩
      · unfold noStar at k2 ⊢
        rw [List.all_cons, k2]
        rfl
      · rw [List.length_cons, List.length_cons, k3]
      · rw [List.all_cons, h6, k4]
        rfl
theorem row_endT {os : List Bool} {B : Addr → Prop} {e : Env} {σ : L2.St} {H : Hp} {is : List Nat} {D : Ends} {r : R (List Ev.D)} (rs : RSt K B H e σ) (hl : is.length = os.length) (hio : ∀ σ vs, io = true → (putVs is vs σ)[0]? = σ[0]?) (h : PostS RX K W io B e σ H (r.bind fun ds e => match slsOf os ds with
    | some ss => .ok .nx (putRow is ss e)
    | none => .no) D) : VPost RX K W B e σ H os r fun vs H1 => vs.length = os.length ∧ ∀ p, H1 p = none → D.nx (putVs is vs σ) (upd H1 p (.tup vs)) := by
  cases r with
  | no => exact h
  | ex x e1 => exact fun c dd H' rs' st rx => h σ c dd H' rs' st rx
  | ok ds e1 =>
    intro B' ps vs H1 rs1 st1 hB hn hnd hh
    replace h : PostS RX K W io B e σ H (match slsOf os ds with
      | some ss => .ok .nx (putRow is ss e1)
      | none => .no) D := h
    cases z : slsOf os ds with
    | none => rw [z] at h; exact h.elim
    | some ss =>
      rw [z] at h
      refine ⟨hh.len, fun p hp => ?_⟩
      obtain ⟨rs2, st2⟩ := rs1.laid (o := .tup vs) hp
      obtain ⟨k1, k2⟩ := settle hl rs2 hB (fun p hp w => by
        obtain ⟨us, q, _⟩ := rs.bnd p w
        rw [hn p hp] at q; cases q) hnd (Holds.mono (Fr.fresh hp) (fun _ z => z.elim) (fun b q => .inl q) (fun _ _ z => z) hh) z
      have st3 := st1.trans st2
      refine h _ _ k1 ⟨st3.fr, st3.al, fun a q => ?_⟩ (hio σ vs)
      rcases k2 a q with w | w
      · exact st3.sub a w
      · exact .inr (hn a w)
theorem ss_parT {is : List Nat} {os : List Bool} {ts es : List PySem.Expr} {kt k2 : Nat} {pt pt2 : Pos} {fr : Env → R (List D)} (ht : rowC Γ io is ts = true) (hw : noSwB Γ ts es = true) (hlim : is.length ≤ 60) (hes : os.length = is.length) (ha : SVL RX Γ C gv K W os es fr) :
    SS RX Γ C gv K W io (.Assign [.Tuple ts kt pt] (.Tuple es k2 pt2) pos) fun e => (fr e).bind fun ds e => match slsOf os ds with
      | some ss => .ok .nx (putRow is ss e)
      | none => .no := by
  obtain ⟨t, p, q⟩ := ha
  obtain ⟨q1, q2, q3⟩ := rowC_s ht
  refine ⟨tAsg (tTup t) (gTup K ts.length (gNames is)), fun X ok hK => ?_, fun B e σ H D rs h => ?_⟩
  · subst hK
    exact ps_asg (pe_tup (p X ok.toOk rfl)) (pg_tup ok.calm (rowC_pg ok.toOk ht).1 each_len (each_none q1)) rfl (swapped_none ok.hsc hw) rfl
  · have k := row_endT (is := is) (io := io) rs hes.symm (fun σ vs => putV_pin q3) h
    refine q B e σ H _ rs (VPost.mono k fun vs H1 z => ?_)
    obtain ⟨z1, z2⟩ := z
    have hvl : vs.length = is.length := z1.trans hes
    refine ⟨?_, fun p hp => ⟨p, vs, rfl, .inl (.inl upd_same), by rw [hvl, q2], gNames_i hvl (z2 p hp)⟩⟩
    have : lim ≤ sizeLine := lim_line
    have : (60 : Nat) ≤ lim := by decide
    omega
theorem ss_par3 {i j l : Nat} {n m o : Str} {px py pz pt pt2 : Pos} {kt k2 : Nat} (hi : Γ.N[i]? = some n) (hj : Γ.N[j]? = some m) (hl : Γ.N[l]? = some o) (hij : i ≠ j) (hil : i ≠ l) (hjl : j ≠ l) (hn : locB Γ n = true) (hm : locB Γ m = true) (ho : locB Γ o = true)
    (i0 : okI io i = true) (j0 : okI io j = true) (l0 : okI io l = true) (hw : sw2B px py [x, y, z] = true) (hp : (pz.line == px.line) = true) (ha : SE RX Γ C gv K W x fa) (hb : SE RX Γ C gv K W y fb) (hc : SE RX Γ C gv K W z fc) :
    SS RX Γ C gv K W io (.Assign [.Tuple [.Name n px, .Name m py, .Name o pz] kt pt] (.Tuple [x, y, z] k2 pt2) pos) fun e => (fa e).bind fun a e => (fb e).bind fun b e => (fc e).bind fun c e => .ok .nx (((e.set i (some (.val a))).set j (some (.val b))).set l (some (.val c))) := by
  obtain ⟨t, p, q⟩ := ha
  obtain ⟨u, p2, q2⟩ := hb
  obtain ⟨w, p3, q3⟩ := hc
  have hst : noStar [x, y, z] = true := by
    unfold sw2B at hw
    exact (and2 (and2 (and2 hw).2).2).2
  obtain ⟨s1, s2⟩ := noStar_cons hst
  obtain ⟨s2, s3⟩ := noStar_cons s2
  obtain ⟨s3, s4⟩ := noStar_cons s3
  refine ⟨tPar3 i j l (tCons t (tCons u (tCons w tNil))), fun X ok hK => ?_, fun B e σ H D rs h => ?_⟩
  · have hx : X.env.scope.names.lookup n = some .local := by rw [ok.hsc]; exact of_decide_eq_true hn
    have hy : X.env.scope.names.lookup m = some .local := by rw [ok.hsc]; exact of_decide_eq_true hm
    have hz : X.env.scope.names.lookup o = some .local := by rw [ok.hsc]; exact of_decide_eq_true ho
    exact ps_par3 ok.calm (by rw [ok.hN]; exact ok.nd) (by rw [ok.hN]; exact hi) (by rw [ok.hN]; exact hj) (by rw [ok.hN]; exact hl) hij hil hjl hx hy hz
      (pa_cons (p X ok.toOk hK) (pa_cons (p2 X ok.toOk hK) (pa_cons (p3 X ok.toOk hK) pa_nil (star_cons s3)) (star_cons s2)) (star_cons s1))
      (sw3_ok (by rw [ok.hsc]; exact ok.kd) hx hy hz (getE_inj ok.nd hi hj hij) (getE_inj ok.nd hi hl hil) (getE_inj ok.nd hj hl hjl) hw hp) rfl
  · refine q B e σ H _ rs (PostS.bindE h fun a e1 v1 H1 _ rs1 _ r1 h1 => ?_)
    refine q2 B e1 σ H1 _ rs1 (PostS.bindE h1 fun b e2 v2 H2 _ rs2 st2 r2 h2 => ?_)
    refine q3 B e2 σ H2 _ rs2 (PostS.bindE h2 fun c e3 v3 H3 _ rs3 st3 r3 h3 => ?_)
    refine ⟨v1, v2, v3, rfl, ?_⟩
    obtain ⟨rs4, st4⟩ := rs3.put (i := i) (rs2.keep st3 (rs1.keep st2 r1))
    obtain ⟨rs5, st5⟩ := rs4.put (i := j) (rs3.keep st4 (rs2.keep st3 r2))
    obtain ⟨rs6, st6⟩ := rs5.put (i := l) (rs4.keep st5 (rs3.keep st4 r3))
    exact h3 _ H3 rs6 ((st4.trans st5).trans st6) fun z => by rw [set_pin l0 z, set_pin j0 z, set_pin i0 z]
/-! ### own lists written -/
theorem ss_swp {i j k : Nat} {n m o : Str} {p1 p2 p3 p4 p5 p6 p7 p8 s1 s2 s3 s4 pt pt2 : Pos} {kt k2 : Nat} (hi : Γ.N[i]? = some n) (hvi : visB Γ n = true) (hj : Γ.N[j]? = some m) (hvj : visB Γ m = true) (hk : Γ.N[k]? = some o) (hvk : visB Γ o = true) :
    SS RX Γ C gv K W io (.Assign [.Tuple [.Subscript (.Name n p1) (.Name m p2) s1, .Subscript (.Name n p3) (.Name o p4) s2] kt pt] (.Tuple [.Subscript (.Name n p5) (.Name o p6) s3, .Subscript (.Name n p7) (.Name m p8) s4] k2 pt2) pos) fun e => match getO e i, intAt e j, intAt e k with
    | some ds, some a, some b => match swapL ds a b with
      | some ds => .ok .nx (e.set i (some (.own ds)))
      | none => .no
    | _, _, _ => .no := by
  refine ⟨tAsg (tTup (tCons (tOp (rIxs K) (tVar i) (tVar k)) (tCons (tOp (rIxs K) (tVar i) (tVar j)) tNil))) (gTup K 2 (gCons (gSub (tVar i) (tVar j) rSetL) (gCons (gSub (tVar i) (tVar k) rSetL) gNil))), fun X ok hK => ?_, fun B e σ H D rs h => ?_⟩
  · subst hK
    have Ei : ∀ p, PE X (.Name n p) (tVar i) := fun p => pe_slot ok.toOk hi hvi
    have Ej : ∀ p, PE X (.Name m p) (tVar j) := fun p => pe_slot ok.toOk hj hvj
    have Ek : ∀ p, PE X (.Name o p) (tVar k) := fun p => pe_slot ok.toOk hk hvk
    have sw : noSwB Γ [.Subscript (.Name n p1) (.Name m p2) s1, .Subscript (.Name n p3) (.Name o p4) s2] [.Subscript (.Name n p5) (.Name o p6) s3, .Subscript (.Name n p7) (.Name m p8) s4] = true := by
      unfold noSwB
      simp
    exact ps_asg (pe_tup (pa_cons (pe_ix (ixs_ok ok.hu) (Ei p5) (Ek p6) (plain_ix rfl)) (pa_cons (pe_ix (ixs_ok ok.hu) (Ei p7) (Ej p8) (plain_ix rfl)) pa_nil (star_cons rfl)) (star_cons rfl)))
      (pg_tup ok.calm (pgs_cons (pg_sub (Ei p1) (Ej p2) set_list (fun v => rfl)) (pgs_cons (pg_sub (Ei p3) (Ek p4) set_list (fun v => rfl)) pgs_nil)) each_len (each_none rfl)) rfl (swapped_none ok.hsc sw) rfl
  · replace h : PostS RX K W io B e σ H (match getO e i, intAt e j, intAt e k with
      | some ds, some a, some b => match swapL ds a b with
        | some ds => .ok .nx (e.set i (some (.own ds)))
        | none => .no
      | _, _, _ => .no) D := h
    cases k0 : getO e i with
    | none => rw [k0] at h; exact h.elim
    | some ds =>
      cases k1 : intAt e j with
      | none => rw [k0, k1] at h; exact h.elim
      | some a =>
        cases k2 : intAt e k with
        | none => rw [k0, k1, k2] at h; exact h.elim
        | some b =>
          rw [k0, k1, k2] at h
          replace h : PostS RX K W io B e σ H (match swapL ds a b with
            | some ds => .ok .nx (e.set i (some (.own ds)))
            | none => .no) D := h
          have inv : ∀ {l : Nat} {z : Int}, intAt e l = some z → e[l]? = some (some (.val (.int z))) := fun {l z} q => by
            unfold intAt at q
            split at q
            · rename_i w hw
              cases q
              exact hw
            · cases q
          obtain ⟨v1, w1, x1⟩ := rs.val j _ (inv k1)
          obtain ⟨v2, w2, x2⟩ := rs.val k _ (inv k2)
          have x1 := x1.unint
          have x2 := x2.unint
          subst x1 x2
          obtain ⟨l, vs, w0, w3, w4, w5⟩ := rs.ownL i ds (getO_own k0)
          cases pa : place ds.length a with
          | none => simp only [swapL, pa] at h; exact h.elim
          | some ia =>
            cases pb : place ds.length b with
            | none => simp only [swapL, pa, pb] at h; exact h.elim
            | some ib =>
              cases ga : ds[ia]? with
              | none => simp only [swapL, pa, pb, ga, Option.bind_some] at h; exact h.elim
              | some y =>
                cases gb : ds[ib]? with
                | none => simp only [swapL, pa, pb, ga, gb, Option.bind_some] at h; exact h.elim
                | some x =>
                  have hs : swapL ds a b = some ((ds.set ia x).set ib y) := by simp only [swapL, pa, pb, ga, gb, Option.bind_some, Option.map_some]
                  rw [hs] at h
                  have ax : at_ ds b = some x := by unfold at_; rw [pb]; exact gb
                  have ay : at_ ds a = some y := by unfold at_; rw [pa]; exact ga
                  obtain ⟨vx, ex, rx⟩ := at_get w5 ax
                  obtain ⟨vy, ey, ry⟩ := at_get w5 ay
                  refine ⟨.ref l, w0, .int b, w2, .inl ⟨l, vs, b, vx, rfl, rfl, .inl (.inl w4), ex, ?_⟩⟩
                  refine ⟨.ref l, w0, .int a, w1, .inl ⟨l, vs, a, vy, rfl, rfl, .inl (.inl w4), ey, ?_⟩⟩
                  refine ⟨by rw [sizeLine_eq]; show 2 ≤ _; omega, fun p hp => ?_⟩
                  obtain ⟨rs1, st1⟩ := rs.laid (o := .tup [vx, vy]) hp
                  have w5' := rs.keeps st1 w5
                  have rx' := rs.keep st1 rx
                  have ry' := rs.keep st1 ry
                  have h4 : upd H p (.tup [vx, vy]) l = some (.lst vs) := by rw [upd_ne (ne_of_none w4 hp)]; exact w4
                  obtain ⟨rs2, st2⟩ := rs1.write (getO_own k0) w0 (Rps.set rx' ia w5')
                  have il : i < e.length := (List.getElem?_eq_some_iff.mp (getO_own k0)).1
                  have o2 : (e.set i (some (Sl.own (ds.set ia x))))[i]? = some (some (Sl.own (ds.set ia x))) := List.getElem?_set_self il
                  have w6 := rs1.keeps st2 (Rps.set rx' ia w5')
                  have ry'' := rs1.keep st2 ry'
                  obtain ⟨rs3, st3⟩ := rs2.write o2 w0 (Rps.set ry'' ib w6)
                  rw [List.set_set] at rs3 st3
                  rw [place_ix, w5.len] at pa pb
                  refine ⟨p, [vx, vy], rfl, .inl (.inl upd_same), rfl, vx, [vy], rfl, ?_⟩
                  refine ⟨.ref l, w0, .int a, w1, l, vs, a, ia, rfl, rfl, h4, pa, ?_⟩
                  refine ⟨vy, [], rfl, ?_⟩
                  refine ⟨.ref l, w0, .int b, w2, l, vs.set ia vx, b, ib, rfl, rfl, upd_same, by rw [List.length_set]; exact pb, ?_⟩
                  exact ⟨rfl, h σ _ rs3 ((st1.trans st2).trans st3) fun _ => rfl⟩
theorem ss_setix {i : Nat} {n : Str} {px ps : Pos} (hi : Γ.N[i]? = some n) (hv : visB Γ n = true) (hc : isComp x = false) (hs : isSl y = false) (ha : SE RX Γ C gv K W x fa) (hb : SE RX Γ C gv K W y fb) :
    SS RX Γ C gv K W io (.Assign [.Subscript (.Name n px) y ps] x pos) fun e => (fa e).bind fun d e => match ioOk (some i) e with
    | true => (fb e).bind fun k e => match (getO e i).bind fun ds => setAt ds k d with
      | some ds => .ok .nx (e.set i (some (Sl.own ds)))
      | none => .no
    | false => .no := by
  obtain ⟨t, p, q⟩ := ha
  obtain ⟨u, p2, q2⟩ := hb
  refine ⟨tAsg t (gSub (tVar i) u rSetL), fun X ok hK => ps_asg (p X ok.toOk hK) (pg_sub (pe_slot ok.toOk hi hv) (p2 X ok.toOk hK) set_list (fun v => by cases y <;> first | rfl | cases hs)) (sole_no hc) rfl rfl, fun B e σ H D rs h => ?_⟩
  refine q B e σ H _ rs (PostS.bindE h fun d e1 v1 H1 _ rs1 _ r1 h1 => ?_)
  cases z : ioOk (some i) e1 with
  | false => simp only [z] at h1; exact h1.elim
  | true =>
    simp only [z] at h1
    have z : (getO e1 i).isSome = true := z
    cases k0 : getO e1 i with
    | none => rw [k0] at z; cases z
    | some ds0 =>
      obtain ⟨a, vs0, w0, _⟩ := rs1.ownL i ds0 (getO_own k0)
      refine ⟨.ref a, w0, ?_⟩
      refine q2 B e1 σ H1 _ rs1 (PostS.bindE h1 fun k e2 v2 H2 _ rs2 st2 r2 h2 => ?_)
      cases k1 : getO e2 i with
      | none => rw [k1] at h2; exact h2.elim
      | some ds =>
        rw [k1] at h2
        replace h2 : PostS RX K W io B e2 σ H2 (match setAt ds k d with
          | some ds => .ok .nx (e2.set i (some (Sl.own ds)))
          | none => .no) D := h2
        obtain ⟨a', vs, w1, w2, w3, w4⟩ := rs2.ownL i ds (getO_own k1)
        rw [w0] at w1
        cases w1
        cases k with
        | int ki =>
          cases hpl : place ds.length ki with
          | none => simp only [setAt, hpl] at h2; exact h2.elim
          | some j =>
            simp only [setAt, hpl, Option.map_some] at h2
            obtain ⟨rs3, st3⟩ := rs2.write (getO_own k1) w0 (Rps.set (rs1.keep st2 r1) j w4)
            rw [place_ix, w4.len] at hpl
            exact ⟨a, vs, ki, j, rfl, r2.unint, w3, hpl, h2 σ _ rs3 st3 fun _ => rfl⟩
        | _ => exact h2.elim
theorem ss_app {i : Nat} {n : Str} {px : Pos} {ap cp : Pos} (hi : Γ.N[i]? = some n) (hv : visB Γ n = true) (hs : isStar x = false) (hl : (ap.endLine == cp.line) = true) (ha : SE RX Γ C gv K W x fa) :
    SS RX Γ C gv K W io (.Expr (.Call (.Attribute (.Name n px) "append" ap) [x] [] cp) pos) fun e => match ioOk (some i) e with
    | false => .no
    | true => (fa e).bind fun d e => match getO e i with
      | some ds => if ds.length < lim then .ok .nx (e.set i (some (Sl.own (ds ++ [d])))) else .no
      | none => .no := by
  obtain ⟨t, p, q⟩ := ha
  refine ⟨tDrop (tBM K "list" rAppend (tVar i) (tCons t tNil)), fun X ok hK => ?_, fun B e σ H D rs h => ?_⟩
  · subst hK
    refine ps_expr (pe_bm PySem.F.plainAttrs_list PySem.F.slot_list_append PySem.F.type_list_append mt_append (pe_slot ok.toOk hi hv) (pa_one (p X ok.toOk rfl) hs) rfl ?_ hl (star_cons hs) rfl) rfl
    rw [star_cons hs]
    rfl
  · cases z : ioOk (some i) e with
    | false => simp only [z] at h; exact h.elim
    | true =>
      simp only [z] at h
      have z : (getO e i).isSome = true := z
      cases k0 : getO e i with
      | none => rw [k0] at z; cases z
      | some ds0 =>
        obtain ⟨a, vs0, w0, _, w00, _⟩ := rs.ownL i ds0 (getO_own k0)
        refine ⟨.ref a, w0, .inl ⟨rfl, vs0, .inl (.inl w00)⟩, ?_⟩
        refine q B e σ H _ rs (PostS.bindE h fun d e1 v1 H1 _ rs1 _ r1 h1 => ?_)
        cases k1 : getO e1 i with
        | none => rw [k1] at h1; exact h1.elim
        | some ds =>
          rw [k1] at h1
          replace h1 : PostS RX K W io B e1 σ H1 (if ds.length < lim then .ok .nx (e1.set i (some (Sl.own (ds ++ [d])))) else .no) D := h1
          obtain ⟨a', vs, w1, w2, w3, w4⟩ := rs1.ownL i ds (getO_own k1)
          rw [w0] at w1
          cases w1
          split at h1
          · rename_i hlt
            obtain ⟨rs3, st3⟩ := rs1.write (getO_own k1) w0 (w4.app (.cons r1 .nil))
            refine ⟨a, vs, v1, rfl, rfl, w3, ?_, h1 σ _ rs3 st3 fun _ => rfl⟩
            rw [← w4.len]
            exact Nat.lt_of_lt_of_le hlt lim_line
          · exact h1.elim
/-! ### op= -/
def augB : Bop → Bool
  | .add => true
  | .sub => true
  | _ => false
def rAug : Bop → TIp
  | .sub => ipI fun i j => i - j
  | _ => ipI fun i j => i + j
theorem aug_ok {X : Cx} {o : Bop} (h : augB o = true) : PIp X (opOf o) (rAug o) := by
  cases o <;> first | exact ip_add | exact ip_sub | cases h
theorem aug_val {O : Addr → Prop} {H : Hp} {o : Bop} {d1 d2 d : D} {v1 v2 : V} {Q : VK} (h1 : Rp K O H d1 v1) (h2 : Rp K O H d2 v2) (h : augop o d1 d2 = some d) (k : ∀ v, Rp K O H d v → Q v H) : rAug o v1 v2 H Q := by
  unfold augop at h
  split at h
  · cases h
    exact ⟨_, _, h1.unint, h2.unint, k _ (by unfold Rp; rfl)⟩
  · cases h
    exact ⟨_, _, h1.unint, h2.unint, k _ (by unfold Rp; rfl)⟩
  · cases h
theorem ss_aug {i : Nat} {n : Str} {px : Pos} {o : Bop} (hi : Γ.N[i]? = some n) (hst : stB Γ n = true) (i0 : okI io i = true) (ho : augB o = true) (ha : SE RX Γ C gv K W x fa) :
    SS RX Γ C gv K W io (.AugAssign (.Name n px) (opOf o) x pos) fun e => match e[i]? with
    | some (some (.val x)) => (fa e).bind fun y e => match augop o x y with
      | some z => .ok .nx (e.set i (some (.val z)))
      | none => .no
    | _ => .no := by
  obtain ⟨t, p, q⟩ := ha
  refine ⟨tAug i t (rAug o), fun X ok hK => ?_, fun B e σ H D rs h => ?_⟩
  · obtain ⟨s1, s2⟩ := ok.toOk.st hst
    exact ps_aug (by rw [ok.hN]; exact ok.nd) (by rw [ok.hN]; exact hi) s1 (p X ok.toOk hK) (aug_ok ho) s2
  · cases k : e[i]? with
    | none => simp only [k] at h; exact h.elim
    | some sl =>
      cases sl with
      | none => simp only [k] at h; exact h.elim
      | some sv =>
        cases sv with
        | ow m ds => simp only [k] at h; exact h.elim
        | val d0 =>
          simp only [k] at h
          obtain ⟨v0, w1, w2⟩ := rs.val i d0 k
          refine ⟨v0, w1, q B e σ H _ rs (PostS.bindE h fun d e1 v1 H1 _ rs1 st1 r1 h1 => ?_)⟩
          cases hz : augop o d0 d with
          | none => rw [hz] at h1; exact h1.elim
          | some dz =>
            rw [hz] at h1
            refine aug_val (rs.keep st1 w2) r1 hz fun v rv => ?_
            obtain ⟨rs3, st3⟩ := rs1.put (i := i) rv
            exact h1 _ H1 rs3 st3 (set_pin i0)
theorem ss_augix {i : Nat} {n : Str} {px ps : Pos} {o : Bop} (hi : Γ.N[i]? = some n) (hv : visB Γ n = true) (hs : isSl y = false) (ho : augB o = true) (hb : SE RX Γ C gv K W y fb) (ha : SE RX Γ C gv K W x fa) :
    SS RX Γ C gv K W io (.AugAssign (.Subscript (.Name n px) y ps) (opOf o) x pos) fun e => match ioOk (some i) e with
    | true => (fb e).bind fun y e => match (getO e i).bind fun ds => ixop (.lst ds) y with
      | some x => (fa e).bind fun w e => match (augop o x w).bind fun z => (getO e i).bind fun ds => setAt ds y z with
        | some ds => .ok .nx (e.set i (some (Sl.own ds)))
        | none => .no
      | none => .no
    | false => .no := by
  obtain ⟨t, p, q⟩ := ha
  obtain ⟨u, p2, q2⟩ := hb
  refine ⟨tAugS (tVar i) u t (rIxL K) (rAug o) rSetL, fun X ok hK => ?_, fun B e σ H D rs h => ?_⟩
  · subst hK
    exact ps_augS (pe_slot ok.toOk hi hv) (p2 X ok.toOk rfl) get_list (p X ok.toOk rfl) (aug_ok ho) set_list (fun ov iv new => by cases y <;> first | rfl | cases hs)
  · cases z : ioOk (some i) e with
    | false => simp only [z] at h; exact h.elim
    | true =>
      simp only [z] at h
      have z : (getO e i).isSome = true := z
      cases k0 : getO e i with
      | none => rw [k0] at z; cases z
      | some ds0 =>
        obtain ⟨a, vs0, w0, _⟩ := rs.ownL i ds0 (getO_own k0)
        refine ⟨.ref a, w0, ?_⟩
        refine q2 B e σ H _ rs (PostS.bindE h fun k e2 v2 H2 _ rs2 st2 r2 h2 => ?_)
        cases k1 : getO e2 i with
        | none => rw [k1] at h2; exact h2.elim
        | some ds =>
          rw [k1] at h2
          replace h2 : PostS RX K W io B e2 σ H2 (match ixop (.lst ds) k with
            | some x => (fa e2).bind fun w e => match (augop o x w).bind fun z => (getO e i).bind fun ds => setAt ds k z with
              | some ds => .ok .nx (e.set i (some (Sl.own ds)))
              | none => .no
            | none => .no) D := h2
          obtain ⟨a', vs, w1, w2, w3, w4⟩ := rs2.ownL i ds (getO_own k1)
          rw [w0] at w1
          cases w1
          cases k with
          | int ki =>
            cases hx : ixop (.lst ds) (.int ki) with
            | none => rw [hx] at h2; exact h2.elim
            | some d0 =>
              rw [hx] at h2
              replace h2 : PostS RX K W io B e2 σ H2 ((fa e2).bind fun w e => match (augop o d0 w).bind fun z => (getO e i).bind fun ds => setAt ds (.int ki) z with
                | some ds => .ok .nx (e.set i (some (Sl.own ds)))
                | none => .no) D := h2
              obtain ⟨v0, hv0, rv0⟩ := at_get w4 (show at_ ds ki = some d0 from hx)
              refine ⟨a, vs, ki, v0, rfl, r2.unint, .inl (.inl w3), hv0, ?_⟩
              refine q B e2 σ H2 _ rs2 (PostS.bindE h2 fun d e3 v3 H3 _ rs3 st3 r3 h3 => ?_)
              cases hz : augop o d0 d with
              | none => rw [hz] at h3; exact h3.elim
              | some dz =>
                rw [hz] at h3
                replace h3 : PostS RX K W io B e3 σ H3 (match (getO e3 i).bind fun ds => setAt ds (.int ki) dz with
                  | some ds => .ok .nx (e3.set i (some (Sl.own ds)))
                  | none => .no) D := h3
                refine aug_val (rs2.keep st3 rv0) r3 hz fun v rv => ?_
                cases k2 : getO e3 i with
                | none => rw [k2] at h3; exact h3.elim
                | some ds2 =>
                  rw [k2] at h3
                  replace h3 : PostS RX K W io B e3 σ H3 (match setAt ds2 (.int ki) dz with
                    | some ds => .ok .nx (e3.set i (some (Sl.own ds)))
                    | none => .no) D := h3
                  obtain ⟨a', vs2, x1, x2, x3, x4⟩ := rs3.ownL i ds2 (getO_own k2)
                  rw [w0] at x1
                  cases x1
                  cases hpl : place ds2.length ki with
                  | none => simp only [setAt, hpl] at h3; exact h3.elim
                  | some j =>
                    simp only [setAt, hpl, Option.map_some] at h3
                    obtain ⟨rs4, st4⟩ := rs3.write (getO_own k2) w0 (Rps.set rv j x4)
                    rw [place_ix, x4.len] at hpl
                    exact ⟨a, vs2, ki, j, rfl, r2.unint, x3, hpl, h3 σ _ rs4 st4 fun _ => rfl⟩
          | _ => exact h2.elim
/-! ### loops -/
theorem PostS.turn {B : Addr → Prop} {e : Env} {σ : L2.St} {H : Hp} {r : R Fl} {nxt : Env → R Fl} {D : Ends} {N : L2.St → Hp → Prop} (h : PostS RX K W io B e σ H (r.bind fun f e => match f with
      | .nx => nxt e
      | .ct => nxt e
      | .bk => .ok .nx e
      | .rt d => .ok (.rt d) e) D) (hN : ∀ e' σ' H', RSt K B H' e' σ' → Stp H e σ H' e' σ' → PostS RX K W io B e' σ' H' (nxt e') D → N σ' H') : PostS RX K W io B e σ H r { D with nx := N, ct := N, bk := D.nx } := by
  cases r with
  | ok fl e1 =>
    intro σ' H' rs st p
    cases fl with
    | nx => exact hN e1 σ' H' rs st (PostS.shift (r := nxt e1) st p h)
    | ct => exact hN e1 σ' H' rs st (PostS.shift (r := nxt e1) st p h)
    | bk => exact h σ' H' rs st p
    | rt d => exact fun v rv => h σ' H' rs st p v rv
  | ex x e1 => exact h
  | no => exact h
theorem ss_while (hc : ST RX Γ C gv K W x fc) (hb : SSs RX Γ C gv K W io sts f) : SS RX Γ C gv K W io (.While x sts [] pos) fun e => loopW fc f C.fuel e := by
  obtain ⟨t, p, q⟩ := hc
  obtain ⟨u, p2, q2⟩ := hb
  refine ⟨tWhile t u, fun X ok hK => ps_while ok.own (p X ok.toOk hK) (p2 X ok hK), fun B e σ H D rs h => ?_⟩
  refine ⟨fun m σ H => ∃ e, RSt K B H e σ ∧ PostS RX K W io B e σ H (loopW fc f m e) D, ⟨C.fuel, e, rs, h⟩, ?_⟩
  rintro m σ1 H1 ⟨e1, rs1, h1⟩
  cases m with
  | zero => exact h1.elim
  | succ m =>
    unfold loopW at h1
    refine q B e1 σ1 H1 _ rs1 (PostS.way h1 fun b e2 H2 rs2 h2 => ?_)
    cases b with
    | false =>
      rw [if_neg Bool.false_ne_true] at h2 ⊢
      exact h2 σ1 H2 rs2 .refl fun _ => rfl
    | true =>
      rw [if_pos rfl] at h2 ⊢
      refine ⟨fun σ' H' => ∃ e, RSt K B H' e σ' ∧ PostS RX K W io B e σ' H' (loopW fc f m e) D, fun σ' H' w => ⟨m, Nat.lt_succ_self m, w⟩, ?_⟩
      exact q2 B e2 σ1 H2 _ rs2 (PostS.turn h2 fun e' σ' H' rs' _ h' => ⟨e', rs', h'⟩)
theorem ss_for {t : Tg} {tg it : PySem.Expr} {fi : Env → R (List D)} (hset : isSet it = false) (hio : (!(io && t.slots.contains 0)) = true) (hi : SI RX Γ C gv K W tg it fi) (hg : SG RX Γ C gv K W t tg) (hb : SSs RX Γ C gv K W io sts f) :
    SS RX Γ C gv K W io (.For tg it sts [] pos) fun e => (fi e).bind fun ds e => loopF t f ds e := by
  obtain ⟨wi, pi, qi⟩ := hi
  obtain ⟨g, pg, qg⟩ := hg
  obtain ⟨u, p2, q2⟩ := hb
  refine ⟨tFor wi g u, fun X ok hK => ps_for ok.own ok.calm (pi X ok.toOk hK) (pg X ok.toOk hK) (p2 X ok hK) (no_fold hset), fun B e σ H D rs h => ?_⟩
  refine qi B e σ H _ rs (PostS.bindE h fun ds e1 J H1 _ rs1 st1 w1 h1 => ?_)
  refine ⟨fun i m σ H => i + m = ds.length ∧ ∃ e, RSt K B H e σ ∧ Wk K (Of B e σ) H ds J ∧ PostS RX K W io B e σ H (loopF t f (ds.drop i) e) D, ⟨ds.length, by omega, e1, rs1, w1, h1⟩, ?_⟩
  rintro i m σ2 H2 ⟨him, e2, rs2, wk, h2⟩
  by_cases hm : i < ds.length
  · have hd : ds[i]? = some ds[i] := List.getElem?_eq_getElem hm
    rw [List.drop_eq_getElem_cons hm] at h2
    unfold loopF at h2
    refine .inr ⟨(wk.go hd).1, fun σ' H' => i + 1 + (m - 1) = ds.length ∧ ∃ e, RSt K B H' e σ' ∧ Wk K (Of B e σ') H' ds J ∧ PostS RX K W io B e σ' H' (loopF t f (ds.drop (i + 1)) e) D, fun σ' H' w => ⟨m - 1, by omega, w⟩, fun xv H' hy => ?_⟩
    obtain ⟨nx, rx⟩ := (wk.go hd).2 xv H' hy
    have stn := (nx.rst rs2).2
    have h2 := PostS.shift stn (fun _ => rfl) h2
    have wk := wk.keep rs2 stn
    have rs2 := (nx.rst rs2).1
    refine qg B e2 σ2 H' ds[i] xv _ rs2 rx ?_
    cases hb1 : bindT t ds[i] e2 with
    | none => rw [hb1] at h2; exact h2.elim
    | some e3 =>
      rw [hb1] at h2
      intro σ3 rs3 st3 o3
      have h3 := PostS.shift st3 (tgt_pin hio o3) h2
      have wk3 := wk.keep rs2 st3
      refine q2 B e3 σ3 H' _ rs3 (PostS.turn h3 fun e' σ' H'' rs' st' h' => ⟨by omega, e', rs', wk3.keep rs3 st', h'⟩)
  · refine .inl ⟨wk.stop (by omega), ?_⟩
    rw [List.drop_eq_nil_of_le (by omega)] at h2
    exact h2 σ2 H2 rs2 .refl fun _ => rfl
end
end Ev
set_option Elab.async false
set_option linter.all false
set_option maxRecDepth 100000
set_option maxHeartbeats 4000000
set_option autoImplicit false
/-! Ev12d: dicts made and written. -/
namespace Ev
open PySem PySem.Spec PyProof.Rows L2
variable [TabT]
/-- a new dict -/
def tDNewX : TE := fun _ H Q => ∀ p ob, H p = none → Q (.ref p) (upd H p (.ext (DicF p [] ob)))
theorem pe_dnewX {X : Cx} {pos : Pos} : PE X (.Dict [] [] pos) tDNewX := ⟨fun pins s σ H Q I h =>
  wpAny_Dict_empty ⟨.ref s.heap.objs.size, _, I.laid (a := s.heap.objs.size) (o := .ext (DicF s.heap.objs.size [] _)) (t' := s.toks) (fun _ _ q => Heap.get?_push_of_some _ q) (Nat.le_refl _)
    (dicF_ok ⟨Nat.zero_le _, beq_eq_false_iff_ne.mpr (Ne.symm (Nat.ne_of_lt I.big)), _, #[], 0, Heap.get?_push_size _ rfl, ⟨rfl, rfl, rfl⟩, rfl, .nil, rfl⟩), rfl, h _ _ (I.hok.fresh (Nat.le_refl _))⟩⟩
/-- d[k] = v -/
def rSetDic (K : PySem.W.Frag) : TSet := fun o i v H Q => ∃ (O : Addr → Prop) (a : Addr) (ds : List D) (vs : List V) (k d : D), o = .ref a ∧ DicAt H a (ent ds vs) ∧ DOk ds ∧ Rps K O H ds vs ∧ fitD k ds = true ∧ ds.length < lim ∧ Rp K O H k i ∧ Rp K O H d v ∧
  ∀ vs' ob, DOk (putD k d ds) → Rps K O H (putD k d ds) vs' → Q (upd H a (.ext (DicF a (ent (putD k d ds) vs') ob)))
theorem set_dic {X : Cx} (hu : X.A.units + 65 < cLine) : PSet X (rSetDic X.K) := by
  intro pins s σ H o i v ov iv u Q I ro ri rv h
  obtain ⟨O, a, ds, vs, k, d, rfl, ha, ok, r, f, hl, rk, rd, q⟩ := h
  cases (show ov = Value.ref a from ro)
  exact dic_put (Nat.lt_of_le_of_lt (Nat.add_le_add_left (by decide) _) hu) I ha ok r f hl rk ri rd rv fun vs' ob s' ok' r' I' => ⟨_, I', q vs' ob ok' r'⟩
theorem dok_nil : DOk [] := ⟨rfl, List.nodup_nil, .inr fun k h => absurd h List.not_mem_nil⟩
section
variable {RX : RXT} {Γ : Gam} {C : Ctx} {gv : Nat → V} {K : PySem.W.Frag} {W : WX} {io : Bool} {pos : Pos} {x y z : PySem.Expr} {fa fb fc : Env → R D}
theorem ss_dnew {i : Nat} {n : Str} {py p : Pos} (hi : Γ.N[i]? = some n) (hst : stB Γ n = true) (hio : (!(io && i == 0)) = true) : SS RX Γ C gv K W io (.Assign [.Name n py] (.Dict [] [] p) pos) fun e => .ok .nx (e.set i (some (.dic []))) := by
  refine ⟨tAsg tDNewX (gName i), fun X ok hK => ps_asg pe_dnewX (pg_name (by rw [ok.hN]; exact ok.nd) (by rw [ok.hN]; exact hi) (ok.toOk.st hst).1 (ok.toOk.st hst).2) (sole_no rfl) rfl rfl, fun B e σ H D rs h => ?_⟩
  intro p ob hp
  obtain ⟨rs1, st1⟩ := rs.takeA (i := i) (m := true) (ds := []) (us := []) (ob := ob) hp ⟨dok_nil, .nil⟩
  exact h (σ.set i (some (V.ref p))) _ rs1 st1 (set_pin hio)
theorem Rps.dropLast {O : Addr → Prop} {H : Hp} {ds : List D} {vs : List V} (h : Rps K O H ds vs) : Rps K O H ds.dropLast vs.dropLast := by
  rw [List.dropLast_eq_take, List.dropLast_eq_take, ← h.len]
  exact h.take _
theorem ss_pop {i : Nat} {n : Str} {px ap cp : Pos} (hi : Γ.N[i]? = some n) (hv : visB Γ n = true) (hl : (ap.endLine == cp.line) = true) :
    SS RX Γ C gv K W io (.Expr (.Call (.Attribute (.Name n px) "pop" ap) [] [] cp) pos) fun e => match getO e i with
    | some ds => if ds.isEmpty = true then .no else .ok .nx (e.set i (some (Sl.own ds.dropLast)))
    | none => .no := by
  refine ⟨tDrop (tBM0 K "list" rPop (tVar i)), fun X ok hK => ?_, fun B e σ H D rs h => ?_⟩
  · subst hK
    exact ps_expr (pe_bm0 PySem.F.plainAttrs_list PySem.F.slot_list_pop PySem.F.type_list_pop mt_pop (pe_slot ok.toOk hi hv) rfl hl) rfl
  · cases k0 : getO e i with
    | none => simp only [k0] at h; exact h.elim
    | some ds =>
      simp only [k0] at h
      cases hd : ds.isEmpty with
      | true => rw [hd] at h; exact h.elim
      | false =>
        rw [hd] at h
        replace h : PostS RX K W io B e σ H (.ok .nx (e.set i (some (Sl.own ds.dropLast)))) D := h
        obtain ⟨a, vs, w1, w2, w3, w4⟩ := rs.ownL i ds (getO_own k0)
        obtain ⟨rs3, st3⟩ := rs.write (getO_own k0) w1 w4.dropLast
        have hp : 0 < vs.length := by
          rw [← w4.len]
          cases ds with
          | nil => cases hd
          | cons _ _ => exact Nat.succ_pos _
        exact ⟨.ref a, w1, .inl ⟨rfl, vs, .inl (.inl w3)⟩, a, vs, vs[vs.length - 1], rfl, rfl, w3, List.getElem?_eq_getElem (by omega), h σ _ rs3 st3 fun _ => rfl⟩
theorem ss_dput {i : Nat} {n : Str} {px ps : Pos} (hi : Γ.N[i]? = some n) (hv : visB Γ n = true) (hc : isComp x = false) (hs : isSl y = false) (ha : SE RX Γ C gv K W x fa) (hb : SE RX Γ C gv K W y fb) :
    SS RX Γ C gv K W io (.Assign [.Subscript (.Name n px) y ps] x pos) fun e => (fa e).bind fun d e => match (getM e i).isSome with
    | true => (fb e).bind fun k e => match getM e i with
      | some ds => if fitD k ds = true ∧ ds.length < lim then .ok .nx (e.set i (some (.dic (putD k d ds)))) else .no
      | none => .no
    | false => .no := by
  obtain ⟨t, p, q⟩ := ha
  obtain ⟨u, p2, q2⟩ := hb
  refine ⟨tAsg t (gSub (tVar i) u (rSetDic K)), fun X ok hK => by subst hK; exact ps_asg (p X ok.toOk rfl) (pg_sub (pe_slot ok.toOk hi hv) (p2 X ok.toOk rfl) (set_dic ok.toOk.hu) (fun v => by cases y <;> first | rfl | cases hs)) (sole_no hc) rfl rfl, fun B e σ H D rs h => ?_⟩
  refine q B e σ H _ rs (PostS.bindE h fun d e1 v1 H1 _ rs1 _ r1 h1 => ?_)
  cases k0 : getM e1 i with
  | none => simp only [k0] at h1; exact h1.elim
  | some ds0 =>
    simp only [k0, Option.isSome_some] at h1
    obtain ⟨a, vs0, w0, _⟩ := rs1.own i ds0 (getM_own k0)
    refine ⟨.ref a, w0, ?_⟩
    refine q2 B e1 σ H1 _ rs1 (PostS.bindE h1 fun k e2 v2 H2 _ rs2 st2 r2 h2 => ?_)
    cases k1 : getM e2 i with
    | none => simp only [k1] at h2; exact h2.elim
    | some ds =>
      simp only [k1] at h2
      obtain ⟨a', vs, w1, w2, w3, w4⟩ := rs2.own i ds (getM_own k1)
      rw [w0] at w1
      cases w1
      split at h2
      · rename_i hc
        refine ⟨Of B e2 σ, a, ds, vs, k, d, rfl, w3, w4.1, w4.2, hc.1, hc.2, r2, rs1.keep st2 r1, fun vs' ob ok' r' => ?_⟩
        obtain ⟨rs3, st3⟩ := rs2.writeA (m := true) (ob := ob) (getM_own k1) w0 ⟨ok', r'⟩
        exact h2 σ _ rs3 st3 fun _ => rfl
      · exact h2.elim
/-- x[k], y[l] = a, b -/
theorem ss_dput2 {i j : Nat} {n m : Str} {x1 x2 y1 y2 : PySem.Expr} {p1 p2 s1 s2 pt pt2 : Pos} {kt k2 : Nat} {f1 f2 g1 g2 : Env → R D} (hi : Γ.N[i]? = some n) (hvi : visB Γ n = true) (hj : Γ.N[j]? = some m) (hvj : visB Γ m = true) (hs1 : isSl y1 = false) (hs2 : isSl y2 = false) (ht1 : isStar x1 = false) (ht2 : isStar x2 = false)
    (ha : SE RX Γ C gv K W x1 f1) (hb : SE RX Γ C gv K W x2 f2) (hk : SE RX Γ C gv K W y1 g1) (hl : SE RX Γ C gv K W y2 g2) :
    SS RX Γ C gv K W io (.Assign [.Tuple [.Subscript (.Name n p1) y1 s1, .Subscript (.Name m p2) y2 s2] kt pt] (.Tuple [x1, x2] k2 pt2) pos) fun e => (f1 e).bind fun d1 e => (f2 e).bind fun d2 e => match (getM e i).isSome with
    | true => (g1 e).bind fun y e => match getM e i with
      | some ds => if fitD y ds = true ∧ ds.length < lim then (match (getM (e.set i (some (.dic (putD y d1 ds)))) j).isSome with
        | true => (g2 (e.set i (some (.dic (putD y d1 ds))))).bind fun z e => match getM e j with
          | some es => if fitD z es = true ∧ es.length < lim then .ok .nx (e.set j (some (.dic (putD z d2 es)))) else .no
          | none => .no
        | false => .no) else .no
      | none => .no
    | false => .no := by
  obtain ⟨ta, pa, qa⟩ := ha
  obtain ⟨tb, pb, qb⟩ := hb
  obtain ⟨tk, pk, qk⟩ := hk
  obtain ⟨tl, pl, ql⟩ := hl
  refine ⟨tAsg (tTup (tCons ta (tCons tb tNil))) (gTup K 2 (gCons (gSub (tVar i) tk (rSetDic K)) (gCons (gSub (tVar j) tl (rSetDic K)) gNil))), fun X ok hK => ?_, fun B e σ H D rs h => ?_⟩
  · subst hK
    have sw : noSwB Γ [.Subscript (.Name n p1) y1 s1, .Subscript (.Name m p2) y2 s2] [x1, x2] = true := by
      unfold noSwB
      simp
    exact ps_asg (pe_tup (pa_cons (pa X ok.toOk rfl) (pa_one (pb X ok.toOk rfl) ht2) (star_cons ht1)))
      (pg_tup ok.calm (pgs_cons (pg_sub (pe_slot ok.toOk hi hvi) (pk X ok.toOk rfl) (set_dic ok.toOk.hu) (fun v => by cases y1 <;> first | rfl | cases hs1)) (pgs_cons (pg_sub (pe_slot ok.toOk hj hvj) (pl X ok.toOk rfl) (set_dic ok.toOk.hu) (fun v => by cases y2 <;> first | rfl | cases hs2)) pgs_nil)) each_len (each_none rfl)) rfl (swapped_none ok.hsc sw) rfl
  · refine qa B e σ H _ rs (PostS.bindE h fun d1 e1 v1 H1 _ rs1 _ r1 h1 => ?_)
    refine qb B e1 σ H1 _ rs1 (PostS.bindE h1 fun d2 e2 v2 H2 _ rs2 st2 r2 h2 => ?_)
    refine ⟨by rw [sizeLine_eq]; show 2 ≤ _; omega, fun p hp => ?_⟩
    have r1 := rs1.keep st2 r1
    obtain ⟨rs3, st3⟩ := rs2.laid (o := .tup [v1, v2]) hp
    have r1 := rs2.keep st3 r1
    have r2 := rs2.keep st3 r2
    refine ⟨p, [v1, v2], rfl, .inl (.inl upd_same), rfl, v1, [v2], rfl, ?_⟩
    cases k0 : getM e2 i with
    | none => simp only [k0] at h2; exact h2.elim
    | some ds0 =>
      simp only [k0, Option.isSome_some] at h2
      replace h2 := PostS.shift (σ1 := σ) st3 (fun _ => rfl) h2
      obtain ⟨a, vs0, w0, _⟩ := rs3.own i ds0 (getM_own k0)
      refine ⟨.ref a, w0, ?_⟩
      refine qk B e2 σ _ _ rs3 (PostS.bindE h2 fun k e3 v3 H3 _ rs4 st4 r3 h3 => ?_)
      have r1 := rs3.keep st4 r1
      have r2 := rs3.keep st4 r2
      cases k1 : getM e3 i with
      | none => simp only [k1] at h3; exact h3.elim
      | some ds =>
        simp only [k1] at h3
        obtain ⟨a', vs, w1, w2, w3, w4⟩ := rs4.own i ds (getM_own k1)
        rw [w0] at w1
        cases w1
        split at h3
        case isFalse => exact h3.elim
        rename_i hc
        refine ⟨Of B e3 σ, a, ds, vs, k, d1, rfl, w3, w4.1, w4.2, hc.1, hc.2, r3, r1, fun vs' ob ok' r' => ?_⟩
        obtain ⟨rs5, st5⟩ := rs4.writeA (m := true) (ob := ob) (getM_own k1) w0 ⟨ok', r'⟩
        have r2 := rs4.keep st5 r2
        refine ⟨v2, [], rfl, ?_⟩
        cases k2 : getM (e3.set i (some (Sl.dic (putD k d1 ds)))) j with
        | none => simp only [k2] at h3; exact h3.elim
        | some es0 =>
          simp only [k2, Option.isSome_some] at h3
          replace h3 := PostS.shift (σ1 := σ) st5 (fun _ => rfl) h3
          obtain ⟨b, us0, u0, _⟩ := rs5.own j es0 (getM_own k2)
          refine ⟨.ref b, u0, ?_⟩
          refine ql B _ σ _ _ rs5 (PostS.bindE h3 fun z e4 v4 H4 _ rs6 st6 r4 h4 => ?_)
          have r2 := rs5.keep st6 r2
          cases k3 : getM e4 j with
          | none => simp only [k3] at h4; exact h4.elim
          | some es =>
            simp only [k3] at h4
            obtain ⟨b', us, u1, u2, u3, u4⟩ := rs6.own j es (getM_own k3)
            rw [u0] at u1
            cases u1
            split at h4
            case isFalse => exact h4.elim
            rename_i hc2
            refine ⟨Of B e4 σ, b, es, us, z, d2, rfl, u3, u4.1, u4.2, hc2.1, hc2.2, r4, r2, fun us' ob2 ok2 r2' => ⟨rfl, ?_⟩⟩
            obtain ⟨rs7, st7⟩ := rs6.writeA (m := true) (ob := ob2) (getM_own k3) u0 ⟨ok2, r2'⟩
            exact h4 σ _ rs7 st7 fun _ => rfl
end
end Ev
set_option Elab.async false
set_option linter.all false
set_option maxRecDepth 100000
set_option maxHeartbeats 4000000
set_option autoImplicit false
/-! Ev13: every statement. -/
namespace Ev
open PySem PySem.Spec PyProof.Rows L2
variable [TabT]
def nmB : Tg → Bool
  | .nm _ => true
  | _ => false
def okT (io : Bool) (t : Tg) : Bool := !(io && t.slots.contains 0)
/-- what may make a new list -/
def newN : Ex → Bool
  | .lst _ => true
  | .lc _ _ _ _ _ => true
  | .lc2 _ _ _ _ _ _ _ _ _ => true
  | .bin .add _ _ => true
  | .bin .mul _ _ => true
  | .rev _ => true
  | .sl _ _ _ => true
  | .prim .list (.cons _ .nil) => true
  | .frm .lrng _ => true
  | .dl0 => true
  | .dl1 _ _ => true
  | _ => false
def rowT (Γ : Gam) (io : Bool) : List Nat → List PySem.Expr → Bool
  | i :: is, t :: ts => (asName t fun n => decide (Γ.N[i]? = some n) && (locB Γ n && okI io i)) && rowT Γ io is ts
  | [], [] => true
  | _, _ => false
def swT (ts es : List PySem.Expr) : Bool := match ts with
  | [.Name _ px, .Name _ py] => sw2B px py es
  | [.Name _ px, .Name _ py, .Name _ pz] => sw2B px py es && pz.line == px.line
  | _ => false
theorem swT_i {ts es : List PySem.Expr} (h : swT ts es = true) : (∃ n px m py, ts = [.Name n px, .Name m py] ∧ sw2B px py es = true) ∨ ∃ n px m py o pz, ts = [.Name n px, .Name m py, .Name o pz] ∧ sw2B px py es = true ∧ (pz.line == px.line) = true := by
  unfold swT at h
  split at h
  · exact .inl ⟨_, _, _, _, rfl, h⟩
  · obtain ⟨h1, h2⟩ := and2 h
    exact .inr ⟨_, _, _, _, _, _, rfl, h1, h2⟩
  · cases h
def mRow (Γ : Gam) : List Bool → Ex → List PySem.Expr → Bool
  | true :: os, .cons a as, es => asC es fun e es => !isStar e && (newN a && (mE Γ a e && mRow Γ os as es))
  | false :: os, .cons a as, es => asC es fun e es => !isStar e && (mE Γ a e && mRow Γ os as es)
  | [], .nil, es => es.isEmpty
  | _, _, _ => false
/-- x[m], x and m names of slots -/
def ixNm (Γ : Gam) (i j : Nat) (t : PySem.Expr) (k : Str → Bool) : Bool := asSub t fun o y => asName o fun n => asName y fun m => decide (Γ.N[i]? = some n) && (visB Γ n && (decide (Γ.N[j]? = some m) && (visB Γ m && k n)))
theorem ixNm_i {Γ : Gam} {i j : Nat} {t : PySem.Expr} {k : Str → Bool} (h : ixNm Γ i j t k = true) : ∃ n m p1 p2 p3, t = .Subscript (.Name n p1) (.Name m p2) p3 ∧ Γ.N[i]? = some n ∧ visB Γ n = true ∧ Γ.N[j]? = some m ∧ visB Γ m = true ∧ k n = true := by
  obtain ⟨x, y, p, rfl, h⟩ := asSub_i h
  obtain ⟨n, p1, rfl, h⟩ := asName_i h
  obtain ⟨m, p2, rfl, h⟩ := asName_i h
  obtain ⟨h1, h⟩ := and2 h
  obtain ⟨h2, h⟩ := and2 h
  obtain ⟨h3, h⟩ := and2 h
  obtain ⟨h4, h⟩ := and2 h
  exact ⟨n, m, p1, p2, p, rfl, of_decide_eq_true h1, h2, of_decide_eq_true h3, h4, h⟩
mutual
def mS (Γ : Gam) (io : Bool) : Sm → PySem.Stmt → Bool
  | .exp a, s => asExp s fun e _ => !isComp e && mE Γ a e
  | .asg t a, s => asAsg s fun tg e _ => mG Γ t tg && (okT io t && (mE Γ a e && ((swF Γ tg e && (!(isTup tg && isTup e) || asTup tg fun ts => asTup e fun es => noSwB Γ ts es)) || (nmB t && (newB a && asNameP tg fun n py => swB Γ n py e)))))
  | .own i a, s => asAsg s fun tg e _ => asNameP tg fun n py => decide (Γ.N[i]? = some n) && (stB Γ n && (okI io i && (newN a && (mE Γ a e && (!isComp e || (swB Γ n py e || !decide (Γ.sc.names.lookup n = some .local)))))))
  | .par2 i j a b, s => asAsg s fun tg e _ => asTup2 tg fun t1 t2 => asNameP t1 fun n px => asNameP t2 fun m py => asTup2 e fun x y => decide (Γ.N[i]? = some n) && (decide (Γ.N[j]? = some m) && (decide (i ≠ j) && (locB Γ n && (locB Γ m &&
      (okI io i && (okI io j && (sw2B px py [x, y] && (mE Γ a x && mE Γ b y))))))))
  | .parN is os a, s => asAsg s fun tg e _ => asTup tg fun ts => asTup e fun es => (rowT Γ io is ts && (decide (is.Nodup) && (swT ts es && (decide (es.length = ts.length) && (decide (os.length = ts.length) && mRow Γ os a es))))) ||
    (rowC Γ io is ts && (noSwB Γ ts es && (decide (is.length ≤ 60) && (decide (os.length = is.length) && mRow Γ os a es))))
  | .par3 i j l a b c, s => asAsg s fun tg e _ => asTup tg fun ts => as3 ts fun t1 t2 t3 => asNameP t1 fun n px => asNameP t2 fun m py => asNameP t3 fun o pz => asTup e fun es => as3 es fun x y z =>
      decide (Γ.N[i]? = some n) && (decide (Γ.N[j]? = some m) && (decide (Γ.N[l]? = some o) && (decide (i ≠ j) && (decide (i ≠ l) && (decide (j ≠ l) && (locB Γ n && (locB Γ m && (locB Γ o &&
      (okI io i && (okI io j && (okI io l && (sw2B px py [x, y, z] && ((pz.line == px.line) && (mE Γ a x && (mE Γ b y && mE Γ c z)))))))))))))))
  | .swp i j k, s => asAsg s fun tg e _ => asTup2 tg fun t1 t2 => asTup2 e fun x1 x2 => ixNm Γ i j t1 (fun n => ixNm Γ i k t2 fun n2 => ixNm Γ i k x1 fun n3 => ixNm Γ i j x2 fun n4 => true)
  | .setix i k a, s => asAsg s fun tg e _ => asSub tg fun o y => asName o fun n => decide (Γ.N[i]? = some n) && (visB Γ n && (!isComp e && (!isSl y && (mE Γ a e && mE Γ k y))))
  | .aug i o a, s => asAug s fun tg op e => decide (op = opOf o) && (augB o && asName tg fun n => decide (Γ.N[i]? = some n) && (stB Γ n && (okI io i && mE Γ a e)))
  | .augix i k o a, s => asAug s fun tg op e => decide (op = opOf o) && (augB o && asSub tg fun ob y => asName ob fun n => decide (Γ.N[i]? = some n) && (visB Γ n && (!isSl y && (mE Γ k y && mE Γ a e))))
  | .app i a, s => asExp s fun e _ => asMethA e fun n m es ln => ln && (decide (m = ("append" : Str)) && as1 es fun y => !isStar y && (mE Γ a y && (decide (Γ.N[i]? = some n) && visB Γ n)))
  | .ret a, s => asRet s fun e => mE Γ a e
  | .retN, s => isRetN s
  | .ite c a b, s => asIfS s fun x p q => tE c && (mE Γ c x && (mSs Γ io a p && mSs Γ io b q))
  | .whl c b, s => asWhl s fun x p => tE c && (mE Γ c x && mSs Γ io b p)
  | .for_ t src b, s => asFor s fun tg it p => !isSet it && (okT io t && (mG Γ t tg && (mI Γ tg src it && mSs Γ io b p)))
  | .brk, s => isBrk s
  | .cnt, s => isCnt s
  | .pass, s => isPass s
  | .never, _ => true
  | .nil, _ => false
  | .cons _ _, _ => false
  | .pop i, s => asExp s fun e _ => asMeth ("pop" : Str) e fun w => asName w fun n => decide (Γ.N[i]? = some n) && visB Γ n
  | .dnew i, s => asAsg s fun tg e _ => asNameP tg fun n py => decide (Γ.N[i]? = some n) && (stB Γ n && (okI io i && isEmpX e))
  | .dput i b a, s => asAsg s fun tg e _ => asSub tg fun o y => asName o fun n => decide (Γ.N[i]? = some n) && (visB Γ n && (!isComp e && (!isSl y && (mE Γ a e && mE Γ b y))))
  | .dput2 i j k l a b, s => asAsg s fun tg e _ => asTup2 tg fun t1 t2 => asTup2 e fun x1 x2 => asSub t1 fun o1 y1 => asSub t2 fun o2 y2 => asName o1 fun n1 => asName o2 fun n2 =>
      decide (Γ.N[i]? = some n1) && (visB Γ n1 && (decide (Γ.N[j]? = some n2) && (visB Γ n2 && (!isSl y1 && (!isSl y2 && (!isStar x1 && (!isStar x2 && (mE Γ a x1 && (mE Γ b x2 && (mE Γ k y1 && mE Γ l y2))))))))))
  | .dapp _ _ _, _ => false
def mSs (Γ : Gam) (io : Bool) : Sm → List PySem.Stmt → Bool
  | .nil, ss => ss.isEmpty
  | .cons a b, ss => asC ss fun s r => mS Γ io a s && mSs Γ io b r
  | _, _ => false
end
section
variable {RX : RXT} {Γ : Gam} {C : Ctx} {gv : Nat → V} {K : PySem.W.Frag} {W : WX} {io : Bool}
theorem new_ok (g0 : St0 Γ C gv K) {a : Ex} {ex : PySem.Expr} (hn : newB a = true) (h : mE Γ a ex = true) : SF RX Γ C gv K W ex (den C a) ∧ ∀ e, isLstR (den C a e) := by
  cases a with
  | lst a =>
    obtain ⟨x, p, rfl, h⟩ := asLst_i h
    refine ⟨sf_lst ((main_ok a).2.1 Γ W x g0 h), fun e d e' q => ?_⟩
    replace q : ((denL C a e).bind fun ds e => if ds.length ≤ lim then R.ok (D.lst ds) e else .no) = .ok d e' := q
    cases z1 : denL C a e with
    | ok ds e1 =>
      rw [z1] at q
      replace q : (if ds.length ≤ lim then R.ok (D.lst ds) e1 else .no) = .ok d e' := q
      split at q
      · cases q; exact ⟨_, rfl⟩
      · cases q
    | ex _ _ => rw [z1] at q; cases q
    | no => rw [z1] at q; cases q
  | lc vs t src cond elt =>
    refine ⟨?_, fun e => lcF_lst⟩
    obtain ⟨x, tg, it, ifs, scope, pos, rfl, h⟩ := asComp_i h
    obtain ⟨h0, h⟩ := and2 h
    obtain ⟨h1, h⟩ := and2 h
    obtain ⟨h2, h⟩ := and2 h
    obtain ⟨h3, h⟩ := and2 h
    obtain ⟨h4, h⟩ := and2 h
    obtain ⟨h5, h6⟩ := and2 h
    have hc : SC RX (Γ.blk scope) C gv K W0 ifs (den C cond) := by
      cases ifs with
      | nil =>
        cases yesB_i h6
        exact sc_nil
      | cons c r =>
        obtain ⟨c', e, h6⟩ := as1_i h6
        rw [e]
        obtain ⟨k1, k2⟩ := and2 h6
        exact sc_one (((main_ok cond).1 (Γ.blk scope) W0 c' g0.blk k1).2 k2)
    exact sf_lc h0 (not_t h1) h4 ((main_ok src).2.2 Γ W tg it g0 h2) ((tg_ok t).1 tg h3) hc ((main_ok elt).1 (Γ.blk scope) W0 x g0.blk h5).1
  | lc2 vs t src cond vs1 t1 src1 cond1 elt =>
    refine ⟨?_, fun e => lc2F_lst⟩
    obtain ⟨x, tg, it, ifs, tg1, it1, ifs1, scope, pos, rfl, h⟩ := asComp2_i h
    obtain ⟨h0, h⟩ := and2 h
    obtain ⟨h1, h⟩ := and2 h
    obtain ⟨h1', h⟩ := and2 h
    obtain ⟨h2, h⟩ := and2 h
    obtain ⟨h3, h⟩ := and2 h
    obtain ⟨h4, h⟩ := and2 h
    obtain ⟨k2, h⟩ := and2 h
    obtain ⟨k3, h⟩ := and2 h
    obtain ⟨k4, h⟩ := and2 h
    obtain ⟨k5, h⟩ := and2 h
    obtain ⟨h5, h⟩ := and2 h
    obtain ⟨h6, h7⟩ := and2 h
    have hc : SC RX (Γ.blk scope) C gv K W0 ifs (den C cond) := by
      cases ifs with
      | nil =>
        cases yesB_i h6
        exact sc_nil
      | cons c r =>
        obtain ⟨c', e, h6⟩ := as1_i h6
        rw [e]
        obtain ⟨k1, k2⟩ := and2 h6
        exact sc_one (((main_ok cond).1 (Γ.blk scope) W0 c' g0.blk k1).2 k2)
    have hc1 : SC RX (Γ.blk scope) C gv K W0 ifs1 (den C cond1) := by
      cases ifs1 with
      | nil =>
        cases yesB_i h7
        exact sc_nil
      | cons c r =>
        obtain ⟨c', e, h7⟩ := as1_i h7
        rw [e]
        obtain ⟨k1, k2⟩ := and2 h7
        exact sc_one (((main_ok cond1).1 (Γ.blk scope) W0 c' g0.blk k1).2 k2)
    exact sf_lc2 h0 (not_t h1) (not_t h1') h4 k4 k5 ((main_ok src).2.2 Γ W tg it g0 h2) ((tg_ok t).1 tg h3) hc ((main_ok src1).2.2 (Γ.blk scope) W0 tg1 it1 g0.blk k2) ((tg_ok t1).1 tg1 k3) hc1 ((main_ok elt).1 (Γ.blk scope) W0 x g0.blk h5).1
  | _ => cases hn
theorem newN_ok (g0 : St0 Γ C gv K) {a : Ex} {ex : PySem.Expr} (hn : newN a = true) (h : mE Γ a ex = true) : SF RX Γ C gv K W ex (asLF (den C a)) := by
  have E : ∀ {a : Ex} {x : PySem.Expr}, mE Γ a x = true → SE RX Γ C gv K W x (den C a) := fun {a x} h => ((main_ok a).1 Γ W x g0 h).1
  cases a with
  | lst a =>
    obtain ⟨s1, s2⟩ := new_ok (RX := RX) (W := W) g0 (a := .lst a) rfl h
    rw [asLF_id fun e => (s2 e).new]
    exact s1
  | lc vs t src cond elt =>
    obtain ⟨s1, s2⟩ := new_ok (RX := RX) (W := W) g0 (a := .lc vs t src cond elt) rfl h
    rw [asLF_id fun e => (s2 e).new]
    exact s1
  | lc2 vs t src cond vs1 t1 src1 cond1 elt =>
    obtain ⟨s1, s2⟩ := new_ok (RX := RX) (W := W) g0 (a := .lc2 vs t src cond vs1 t1 src1 cond1 elt) rfl h
    rw [asLF_id fun e => (s2 e).new]
    exact s1
  | bin o a b =>
    obtain ⟨x, p, y, pos, rfl, h⟩ := asBin_i h
    obtain ⟨h0, h⟩ := and2 h
    obtain ⟨h1, h2⟩ := and2 h
    cases of_decide_eq_true h0
    cases o with
    | add => exact sf_cat (E h1) (E h2)
    | mul => exact sf_rep (E h1) (E h2)
    | _ => cases hn
  | rev a =>
    obtain ⟨x, y, pos, rfl, h⟩ := asSub_i h
    obtain ⟨h0, h1⟩ := and2 h
    obtain ⟨k, p1, p2, p3, rfl⟩ := isRevSl_i h0
    exact sf_rev (E h1)
  | sl a lo hi =>
    obtain ⟨x, y, pos, rfl, h⟩ := asSub_i h
    obtain ⟨h1, h⟩ := and2 h
    obtain ⟨l, u, p2, rfl, h⟩ := asSl_i h
    obtain ⟨h2, h3⟩ := and2 h
    exact sf_sl (E h1) (part_ok g0 (main_ok lo) h2) (part_ok g0 (main_ok hi) h3)
  | prim p as =>
    cases p with
    | list =>
      cases as with
      | cons a as =>
        cases as with
        | nil =>
          obtain ⟨x, q, es, pos, rfl, h⟩ := asCall_i h
          obtain ⟨h0, h⟩ := and2 h
          obtain ⟨h1, h⟩ := and2 h
          obtain ⟨_, h⟩ := and2 h
          obtain ⟨y, ey, k1⟩ := as1_i (k := fun y => mL Γ (.cons a .nil) [y]) h
          subst ey
          obtain ⟨y', r', e, k2⟩ := asC_i (k := fun e es => !isStar e && (mE Γ a e && mL Γ .nil es)) k1
          cases e
          obtain ⟨h2, k3⟩ := and2 k2
          obtain ⟨h3, _⟩ := and2 k3
          cases of_decide_eq_true h1
          have q := sf_list (pos := pos) (q := q) h0 (not_t h2) (E h3)
          have e0 : (fun e => (den C a e).bind fun d e => R.of (prim .list [d]) e) = den C (.prim .list (.cons a .nil)) := by
            funext e
            simp only [den, denL]
            cases den C a e <;> rfl
          rw [e0] at q
          exact q
        | _ => cases hn
      | _ => cases hn
    | _ => cases hn
  | dl0 =>
    obtain ⟨p, rfl⟩ := isEmpX_i h
    rw [asLF_id fun e d e' q => by cases q; exact .inr ⟨_, rfl⟩]
    exact sf_dl0
  | dl1 a b =>
    obtain ⟨x, y, p, rfl, h⟩ := asDict1_i h
    obtain ⟨h1, h2⟩ := and2 h
    have e0 : den C (.dl1 a b) = dl1F (den C a) (den C b) := rfl
    rw [e0, asLF_id fun e => dl1_new]
    exact sf_dl1 (E h1) (E h2)
  | frm k a =>
    cases k with
    | lrng =>
      obtain ⟨x, q, es, pos, ex, g0'⟩ := asCall_i h
      subst ex
      obtain ⟨h0, g1⟩ := and2 g0'
      obtain ⟨y, ey, g2⟩ := as1_i g1
      subst ey
      obtain ⟨z, q2, fs, p2, ez, g3⟩ := asCall_i g2
      subst ez
      obtain ⟨h1, g4⟩ := and2 g3
      obtain ⟨w, ew, g5⟩ := as1_i g4
      subst ew
      obtain ⟨h2, g6⟩ := and2 g5
      obtain ⟨h3, g7⟩ := and2 g6
      obtain ⟨h4, h5⟩ := and2 g7
      cases of_decide_eq_true h4
      cases of_decide_eq_true h5
      exact sf_lrng h0 h1 (not_t h2) (E h3)
    | _ => cases hn
  | _ => cases hn
theorem row_ok (g0 : St0 Γ C gv K) : ∀ (os : List Bool) (a : Ex) (es : List PySem.Expr), mRow Γ os a es = true → SVL RX Γ C gv K W os es (denRow C os a)
  | [], a, es, h => by
    cases a with
    | nil => cases es with
      | nil => exact svl_nil
      | cons _ _ => cases h
    | _ => cases h
  | true :: os, a, es, h => by
    cases a with
    | cons a as =>
      obtain ⟨x, r, rfl, h⟩ := asC_i h
      obtain ⟨h1, h⟩ := and2 h
      obtain ⟨h2, h⟩ := and2 h
      obtain ⟨h3, h4⟩ := and2 h
      exact svl_new (not_t h1) (newN_ok g0 h2 h3) (row_ok g0 os as r h4)
    | _ => cases h
  | false :: os, a, es, h => by
    cases a with
    | cons a as =>
      obtain ⟨x, r, rfl, h⟩ := asC_i h
      obtain ⟨h1, h⟩ := and2 h
      obtain ⟨h2, h3⟩ := and2 h
      exact svl_val (not_t h1) ((main_ok a).1 Γ W x g0 h2).1 (row_ok g0 os as r h3)
    | _ => cases h
theorem nmB_i {t : Tg} (h : nmB t = true) : ∃ i, t = .nm i := by
  cases t <;> first | exact ⟨_, rfl⟩ | cases h
theorem stores_no {t : Tg} {tg x : PySem.Expr} (hg : mG Γ t tg = true) (h : (!(isTup tg && isTup x) || asTup tg fun ts => asTup x fun es => noSwB Γ ts es) = true) (env : PySem.Env) (hsc : env.scope = Γ.sc) : swappedStores [tg] x env = pure none := by
  cases t with
  | nm i => obtain ⟨n, p, rfl, _⟩ := asName_i hg; rfl
  | tp t =>
    obtain ⟨es, n, p, rfl, _⟩ := asTup_i hg
    cases x with
    | Tuple vs k2 pt2 =>
      have h : noSwB Γ es vs = true := by simpa [isTup, asTup] using h
      exact swapped_none hsc h
    | _ => rfl
  | nil => cases hg
  | cons _ _ => cases hg
theorem main_s (g0 : St0 Γ C gv K) (s : Sm) : (∀ st, mS Γ io s st = true → SS RX Γ C gv K W io st (denS C s)) ∧ ∀ sts, mSs Γ io s sts = true → SSs RX Γ C gv K W io sts (denS C s) := by
  have E : ∀ {a : Ex} {x : PySem.Expr}, mE Γ a x = true → SE RX Γ C gv K W x (den C a) := fun {a x} h => ((main_ok a).1 Γ W x g0 h).1
  have T : ∀ {a : Ex} {x : PySem.Expr}, mE Γ a x = true → tE a = true → ST RX Γ C gv K W x (den C a) := fun {a x} h k => ((main_ok a).1 Γ W x g0 h).2 k
  induction s with
  | nil =>
    refine ⟨fun st h => (by cases h), fun sts h => ?_⟩
    cases sts with
    | nil => exact ss_nil
    | cons _ _ => cases h
  | cons a b iha ihb =>
    refine ⟨fun st h => (by cases h), fun sts h => ?_⟩
    obtain ⟨x, r, rfl, q1⟩ := asC_i h
    obtain ⟨h1, h2⟩ := and2 q1
    exact ss_cons (iha.1 x h1) (ihb.2 r h2)
  | exp a =>
    refine ⟨fun st h => ?_, fun sts h => (by cases h)⟩
    obtain ⟨x, p, rfl, q1⟩ := asExp_i h
    obtain ⟨h1, h2⟩ := and2 q1
    exact ss_exp (not_t h1) (E h2)
  | asg t a =>
    refine ⟨fun st h => ?_, fun sts h => (by cases h)⟩
    obtain ⟨tg, x, p, rfl, q1⟩ := asAsg_i h
    obtain ⟨h1, q2⟩ := and2 q1
    obtain ⟨h2, q3⟩ := and2 q2
    obtain ⟨h3, q4⟩ := and2 q3
    rw [Bool.or_eq_true] at q4
    rcases q4 with k | k
    · obtain ⟨k1, k2⟩ := and2 k
      exact ss_asg (fun env l hsc => swF_no hsc k1) (stores_no h1 k2) h2 (mG_star h1) (E h3) ((tg_ok t).1 tg h1)
    · obtain ⟨k1, k⟩ := and2 k
      obtain ⟨k2, q5⟩ := and2 k
      obtain ⟨n, py, rfl, k3⟩ := asNameP_i q5
      obtain ⟨i, rfl⟩ := nmB_i k1
      have g : (decide (Γ.N[i]? = some n) && stB Γ n) = true := h1
      obtain ⟨g1, g2⟩ := and2 g
      obtain ⟨s1, s2⟩ := new_ok (RX := RX) (W := W) g0 k2 h3
      refine ss_setF (of_decide_eq_true g1) g2 (by rw [k3, Bool.or_true]) ?_ s2 s1
      have h2 : (!(io && ([i] : List Nat).contains 0)) = true := h2
      have e0 : ([i] : List Nat).contains 0 = (i == 0) := by
        cases i with
        | zero => rfl
        | succ n => rfl
      rw [e0] at h2
      exact h2
  | own i a =>
    refine ⟨fun st h => ?_, fun sts h => (by cases h)⟩
    obtain ⟨tg, x, p, rfl, q1⟩ := asAsg_i h
    obtain ⟨n, py, rfl, q2⟩ := asNameP_i q1
    obtain ⟨h1, q3⟩ := and2 q2
    obtain ⟨h2, q4⟩ := and2 q3
    obtain ⟨h3, q5⟩ := and2 q4
    obtain ⟨h4, q6⟩ := and2 q5
    obtain ⟨h5, h6⟩ := and2 q6
    exact ss_ownN (of_decide_eq_true h1) h2 h6 h3 (newN_ok g0 h4 h5)
  | parN is os a =>
    refine ⟨fun st h => ?_, fun sts h => (by cases h)⟩
    obtain ⟨tg, e, p, rfl, q1⟩ := asAsg_i h
    obtain ⟨ts, kt, pt, rfl, q2⟩ := asTup_i q1
    obtain ⟨es, k2, pt2, rfl, q3⟩ := asTup_i q2
    rw [Bool.or_eq_true] at q3
    rcases q3 with q3 | q3
    case inr =>
      obtain ⟨h1, q4⟩ := and2 q3
      obtain ⟨h2, q5⟩ := and2 q4
      obtain ⟨h3, q6⟩ := and2 q5
      obtain ⟨h4, h5⟩ := and2 q6
      exact ss_parT h1 h2 (of_decide_eq_true h3) (of_decide_eq_true h4) (row_ok g0 os a _ h5)
    obtain ⟨h1, q4⟩ := and2 q3
    obtain ⟨h2, q5⟩ := and2 q4
    obtain ⟨h3, q6⟩ := and2 q5
    obtain ⟨h4, q7⟩ := and2 q6
    obtain ⟨h5, h6⟩ := and2 q7
    have h2 := of_decide_eq_true h2
    have h4 := of_decide_eq_true h4
    have h5 := of_decide_eq_true h5
    rcases swT_i h3 with ⟨n, px, m, py, rfl, h3⟩ | ⟨n, px, m, py, o, pz, rfl, h3, h7⟩
    · obtain ⟨x, y, rfl⟩ := len2 (show es.length = 2 from h4)
      match is, h1, h2 with
      | [i, j], h1, h2 =>
        obtain ⟨g1, h1⟩ := and2 h1
        obtain ⟨g2, _⟩ := and2 h1
        obtain ⟨a1, a2⟩ := and2 (show (decide (Γ.N[i]? = some n) && (locB Γ n && okI io i)) = true from g1)
        obtain ⟨a2, a3⟩ := and2 a2
        obtain ⟨b1, b2⟩ := and2 (show (decide (Γ.N[j]? = some m) && (locB Γ m && okI io j)) = true from g2)
        obtain ⟨b2, b3⟩ := and2 b2
        refine ss_parN2 (of_decide_eq_true a1) (of_decide_eq_true b1) (fun z => ?_) a2 b2 ?_ h3 h5 (row_ok g0 os a _ h6)
        · rw [z] at h2; simp at h2
        · simp [a3, b3]
      | [i], h1, _ => exact absurd (and2 h1).2 (by intro z; cases z)
      | i :: j :: k :: r, h1, _ => exact absurd (and2 (and2 h1).2).2 (by intro z; cases z)
    · obtain ⟨x, y, z, rfl⟩ := len3 (show es.length = 3 from h4)
      match is, h1, h2 with
      | [i, j, l], h1, h2 =>
        obtain ⟨g1, h1⟩ := and2 h1
        obtain ⟨g2, h1⟩ := and2 h1
        obtain ⟨g3, _⟩ := and2 h1
        obtain ⟨a1, a2⟩ := and2 (show (decide (Γ.N[i]? = some n) && (locB Γ n && okI io i)) = true from g1)
        obtain ⟨a2, a3⟩ := and2 a2
        obtain ⟨b1, b2⟩ := and2 (show (decide (Γ.N[j]? = some m) && (locB Γ m && okI io j)) = true from g2)
        obtain ⟨b2, b3⟩ := and2 b2
        obtain ⟨c1, c2⟩ := and2 (show (decide (Γ.N[l]? = some o) && (locB Γ o && okI io l)) = true from g3)
        obtain ⟨c2, c3⟩ := and2 c2
        refine ss_parN3 (of_decide_eq_true a1) (of_decide_eq_true b1) (of_decide_eq_true c1) (fun z => ?_) (fun z => ?_) (fun z => ?_) a2 b2 c2 ?_ h3 h7 h5 (row_ok g0 os a _ h6)
        · rw [z] at h2; simp at h2
        · rw [z] at h2; simp at h2
        · rw [z] at h2; simp at h2
        · simp [a3, b3, c3]
      | [i], h1, _ => exact absurd (and2 h1).2 (by intro z; cases z)
      | [i, j], h1, _ => exact absurd (and2 (and2 h1).2).2 (by intro z; cases z)
      | i :: j :: k :: l :: r, h1, _ => exact absurd (and2 (and2 (and2 h1).2).2).2 (by intro z; cases z)
  | par2 i j a b =>
    refine ⟨fun st h => ?_, fun sts h => (by cases h)⟩
    obtain ⟨tg, e, p, rfl, q1⟩ := asAsg_i h
    obtain ⟨ts, _, _, rfl, q2⟩ := asTup_i q1
    obtain ⟨t1, t2, rfl, q3⟩ := as2_i q2
    obtain ⟨n, px, rfl, q4⟩ := asNameP_i q3
    obtain ⟨m, py, rfl, q5⟩ := asNameP_i q4
    obtain ⟨es, _, _, rfl, q6⟩ := asTup_i q5
    obtain ⟨x, y, rfl, q7⟩ := as2_i q6
    obtain ⟨h1, q8⟩ := and2 q7
    obtain ⟨h2, q9⟩ := and2 q8
    obtain ⟨h3, q10⟩ := and2 q9
    obtain ⟨h4, q11⟩ := and2 q10
    obtain ⟨h5, q12⟩ := and2 q11
    obtain ⟨h6, q13⟩ := and2 q12
    obtain ⟨h7, q14⟩ := and2 q13
    obtain ⟨h8, q15⟩ := and2 q14
    obtain ⟨h9, h10⟩ := and2 q15
    exact ss_par2 (of_decide_eq_true h1) (of_decide_eq_true h2) (of_decide_eq_true h3) h4 h5 h6 h7 h8 (E h9) (E h10)
  | par3 i j l a b c =>
    refine ⟨fun st h => ?_, fun sts h => (by cases h)⟩
    obtain ⟨tg, e, p, rfl, q1⟩ := asAsg_i h
    obtain ⟨ts, _, _, rfl, q2⟩ := asTup_i q1
    obtain ⟨t1, t2, t3, rfl, q3⟩ := as3_i q2
    obtain ⟨n, px, rfl, q4⟩ := asNameP_i q3
    obtain ⟨m, py, rfl, q5⟩ := asNameP_i q4
    obtain ⟨o, pz, rfl, q6⟩ := asNameP_i q5
    obtain ⟨es, _, _, rfl, q7⟩ := asTup_i q6
    obtain ⟨x, y, z, rfl, q8⟩ := as3_i q7
    obtain ⟨h1, q9⟩ := and2 q8
    obtain ⟨h2, q10⟩ := and2 q9
    obtain ⟨h3, q11⟩ := and2 q10
    obtain ⟨h4, q12⟩ := and2 q11
    obtain ⟨h5, q13⟩ := and2 q12
    obtain ⟨h6, q14⟩ := and2 q13
    obtain ⟨h7, q15⟩ := and2 q14
    obtain ⟨h8, q16⟩ := and2 q15
    obtain ⟨h9, q17⟩ := and2 q16
    obtain ⟨h10, q18⟩ := and2 q17
    obtain ⟨h11, q19⟩ := and2 q18
    obtain ⟨h12, q20⟩ := and2 q19
    obtain ⟨h13, q21⟩ := and2 q20
    obtain ⟨h14, q22⟩ := and2 q21
    obtain ⟨h15, q23⟩ := and2 q22
    obtain ⟨h16, h17⟩ := and2 q23
    exact ss_par3 (of_decide_eq_true h1) (of_decide_eq_true h2) (of_decide_eq_true h3) (of_decide_eq_true h4) (of_decide_eq_true h5) (of_decide_eq_true h6) h7 h8 h9 h10 h11 h12 h13 h14 (E h15) (E h16) (E h17)
  | pop i =>
    refine ⟨fun st h => ?_, fun sts h => (by cases h)⟩
    obtain ⟨x, p, rfl, q1⟩ := asExp_i h
    obtain ⟨n, px, ap, cp, rfl, h1, q2⟩ := asMeth_i q1
    obtain ⟨n', px', e1, q3⟩ := asName_i q2
    cases e1
    obtain ⟨h2, h3⟩ := and2 q3
    exact ss_pop (of_decide_eq_true h2) h3 h1
  | dnew i =>
    refine ⟨fun st h => ?_, fun sts h => (by cases h)⟩
    obtain ⟨tg, x, p, rfl, q1⟩ := asAsg_i h
    obtain ⟨n, py, rfl, q2⟩ := asNameP_i q1
    obtain ⟨h1, q3⟩ := and2 q2
    obtain ⟨h2, q4⟩ := and2 q3
    obtain ⟨h3, h4⟩ := and2 q4
    obtain ⟨pe, rfl⟩ := isEmpX_i h4
    exact ss_dnew (of_decide_eq_true h1) h2 h3
  | dput i b a =>
    refine ⟨fun st h => ?_, fun sts h => (by cases h)⟩
    obtain ⟨tg, x, p, rfl, q1⟩ := asAsg_i h
    obtain ⟨o, y, ps, rfl, q2⟩ := asSub_i q1
    obtain ⟨n, px, rfl, q3⟩ := asName_i q2
    obtain ⟨h1, q4⟩ := and2 q3
    obtain ⟨h2, q5⟩ := and2 q4
    obtain ⟨h3, q6⟩ := and2 q5
    obtain ⟨h4, q7⟩ := and2 q6
    obtain ⟨h5, h6⟩ := and2 q7
    exact ss_dput (of_decide_eq_true h1) h2 (not_t h3) (not_t h4) (E h5) (E h6)
  | dput2 i j k l a b =>
    refine ⟨fun st h => ?_, fun sts h => (by cases h)⟩
    obtain ⟨tg, x, p, rfl, q1⟩ := asAsg_i h
    obtain ⟨ts, _, _, rfl, q2⟩ := asTup_i q1
    obtain ⟨t1, t2, rfl, q3⟩ := as2_i q2
    obtain ⟨es, _, _, rfl, q4⟩ := asTup_i q3
    obtain ⟨x1, x2, rfl, q5⟩ := as2_i q4
    obtain ⟨o1, y1, _, rfl, q6⟩ := asSub_i q5
    obtain ⟨o2, y2, _, rfl, q7⟩ := asSub_i q6
    obtain ⟨n1, _, rfl, q8⟩ := asName_i q7
    obtain ⟨n2, _, rfl, q9⟩ := asName_i q8
    obtain ⟨h1, q⟩ := and2 q9
    obtain ⟨h2, q⟩ := and2 q
    obtain ⟨h3, q⟩ := and2 q
    obtain ⟨h4, q⟩ := and2 q
    obtain ⟨h5, q⟩ := and2 q
    obtain ⟨h6, q⟩ := and2 q
    obtain ⟨h7, q⟩ := and2 q
    obtain ⟨h8, q⟩ := and2 q
    obtain ⟨h9, q⟩ := and2 q
    obtain ⟨h10, q⟩ := and2 q
    obtain ⟨h11, h12⟩ := and2 q
    exact ss_dput2 (of_decide_eq_true h1) h2 (of_decide_eq_true h3) h4 (not_t h5) (not_t h6) (not_t h7) (not_t h8) (E h9) (E h10) (E h11) (E h12)
  | dapp i k a => exact ⟨fun st h => (by cases h), fun sts h => (by cases h)⟩
  | swp i j k =>
    refine ⟨fun st h => ?_, fun sts h => (by cases h)⟩
    obtain ⟨tg, x, p, rfl, q1⟩ := asAsg_i h
    obtain ⟨ts, _, _, rfl, q2⟩ := asTup_i q1
    obtain ⟨t1, t2, rfl, q3⟩ := as2_i q2
    obtain ⟨es, _, _, rfl, q4⟩ := asTup_i q3
    obtain ⟨x1, x2, rfl, q5⟩ := as2_i q4
    obtain ⟨n, m, _, _, _, rfl, a1, a2, a3, a4, q6⟩ := ixNm_i q5
    obtain ⟨n2, o, _, _, _, rfl, b1, b2, b3, b4, q7⟩ := ixNm_i q6
    obtain ⟨n3, o3, _, _, _, rfl, c1, c2, c3, c4, q8⟩ := ixNm_i q7
    obtain ⟨n4, m4, _, _, _, rfl, d1, d2, d3, d4, _⟩ := ixNm_i q8
    rw [a1] at b1 c1 d1
    rw [a3] at d3
    rw [b3] at c3
    cases b1; cases c1; cases d1; cases d3; cases c3
    exact ss_swp a1 a2 a3 a4 b3 b4
  | setix i b a =>
    refine ⟨fun st h => ?_, fun sts h => (by cases h)⟩
    obtain ⟨tg, x, p, rfl, q1⟩ := asAsg_i h
    obtain ⟨o, y, ps, rfl, q2⟩ := asSub_i q1
    obtain ⟨n, px, rfl, q3⟩ := asName_i q2
    obtain ⟨h1, q4⟩ := and2 q3
    obtain ⟨h2, q5⟩ := and2 q4
    obtain ⟨h3, q6⟩ := and2 q5
    obtain ⟨h4, q7⟩ := and2 q6
    obtain ⟨h5, h6⟩ := and2 q7
    exact ss_setix (of_decide_eq_true h1) h2 (not_t h3) (not_t h4) (E h5) (E h6)
  | aug i o a =>
    refine ⟨fun st h => ?_, fun sts h => (by cases h)⟩
    obtain ⟨tg, op, x, p, rfl, q1⟩ := asAug_i h
    obtain ⟨h0, q2⟩ := and2 q1
    obtain ⟨h1, q3⟩ := and2 q2
    obtain ⟨n, px, rfl, q4⟩ := asName_i q3
    obtain ⟨h2, q5⟩ := and2 q4
    obtain ⟨h3, q6⟩ := and2 q5
    obtain ⟨h4, h5⟩ := and2 q6
    rw [of_decide_eq_true h0]
    exact ss_aug (of_decide_eq_true h2) h3 h4 h1 (E h5)
  | augix i b o a =>
    refine ⟨fun st h => ?_, fun sts h => (by cases h)⟩
    obtain ⟨tg, op, x, p, rfl, q1⟩ := asAug_i h
    obtain ⟨h0, q2⟩ := and2 q1
    obtain ⟨h1, q3⟩ := and2 q2
    obtain ⟨ob, y, ps, rfl, q4⟩ := asSub_i q3
    obtain ⟨n, px, rfl, q5⟩ := asName_i q4
    obtain ⟨h2, q6⟩ := and2 q5
    obtain ⟨h3, q7⟩ := and2 q6
    obtain ⟨h4, q8⟩ := and2 q7
    obtain ⟨h5, h6⟩ := and2 q8
    rw [of_decide_eq_true h0]
    exact ss_augix (of_decide_eq_true h2) h3 (not_t h4) h1 (E h5) (E h6)
  | app i a =>
    refine ⟨fun st h => ?_, fun sts h => (by cases h)⟩
    obtain ⟨x, p, rfl, q1⟩ := asExp_i h
    obtain ⟨n, px, m, ap, es, cp, rfl, q2⟩ := asMethA_i q1
    obtain ⟨h1, q3⟩ := and2 q2
    obtain ⟨h2, q4⟩ := and2 q3
    obtain ⟨y, rfl, q5⟩ := as1_i q4
    obtain ⟨h3, q6⟩ := and2 q5
    obtain ⟨h4, q7⟩ := and2 q6
    obtain ⟨h5, h6⟩ := and2 q7
    rw [of_decide_eq_true h2]
    exact ss_app (of_decide_eq_true h5) h6 (not_t h3) h1 (E h4)
  | ret a =>
    refine ⟨fun st h => ?_, fun sts h => (by cases h)⟩
    obtain ⟨x, p, rfl, q1⟩ := asRet_i h
    exact ss_ret (E q1)
  | retN =>
    refine ⟨fun st h => ?_, fun sts h => (by cases h)⟩
    obtain ⟨p, rfl⟩ := isRetN_i h
    exact ss_retN
  | ite c a b iha ihb =>
    refine ⟨fun st h => ?_, fun sts h => (by cases h)⟩
    obtain ⟨x, p, q, pos, rfl, q1⟩ := asIfS_i h
    obtain ⟨h1, q2⟩ := and2 q1
    obtain ⟨h2, q3⟩ := and2 q2
    obtain ⟨h3, h4⟩ := and2 q3
    exact ss_if (T h2 h1) (iha.2 p h3) (ihb.2 q h4)
  | whl c b ih =>
    refine ⟨fun st h => ?_, fun sts h => (by cases h)⟩
    obtain ⟨x, p, pos, rfl, q1⟩ := asWhl_i h
    obtain ⟨h1, q2⟩ := and2 q1
    obtain ⟨h2, h3⟩ := and2 q2
    exact ss_while (T h2 h1) (ih.2 p h3)
  | for_ t src b ih =>
    refine ⟨fun st h => ?_, fun sts h => (by cases h)⟩
    obtain ⟨tg, it, p, pos, rfl, q1⟩ := asFor_i h
    obtain ⟨h1, q2⟩ := and2 q1
    obtain ⟨h2, q3⟩ := and2 q2
    obtain ⟨h3, q4⟩ := and2 q3
    obtain ⟨h4, h5⟩ := and2 q4
    exact ss_for (not_t h1) h2 ((main_ok src).2.2 Γ W tg it g0 h4) ((tg_ok t).1 tg h3) (ih.2 p h5)
  | brk => exact ⟨fun st h => ss_brk h, fun sts h => (by cases h)⟩
  | cnt => exact ⟨fun st h => ss_cnt h, fun sts h => (by cases h)⟩
  | pass => exact ⟨fun st h => ss_pass h, fun sts h => (by cases h)⟩
  | never => exact ⟨fun st h => ss_never, fun sts h => (by cases h)⟩
end
end Ev
set_option Elab.async false
set_option linter.all false
set_option maxRecDepth 100000
set_option maxHeartbeats 4000000
set_option autoImplicit false
/-! Ev14: defs, the table of all defs, the law's end. -/
namespace Ev
open PySem PySem.Spec PyProof.Rows L2
variable [TabT]
/-- a def of the table: its text, its tree -/
structure Ent where
  name : Str
  np : Nat
  N : List Str
  io : Bool
  ir : Sm
  params : Arguments
  body : List PySem.Stmt
  scope : Scope
  lam : Bool := false
def Ent.fi (E : Ent) : FnI := ⟨E.name, E.N.take E.np, E.io⟩
def Ent.fn (E : Ent) : Fn := ⟨E.np, E.N.length, E.io, E.ir⟩
def Ent.gam (E : Ent) (fns : List FnI) (gls : List Str) : Gam := ⟨E.N, E.scope, none, fns, gls, E.lam⟩
def nodupB : List Str → Bool
  | [] => true
  | x :: r => !r.contains x && nodupB r
theorem nodupB_ok : ∀ {l : List Str}, nodupB l = true → l.Nodup
  | [], _ => List.nodup_nil
  | x :: r, h => by
    obtain ⟨h1, h2⟩ := and2 h
    refine List.nodup_cons.mpr ⟨fun z => ?_, nodupB_ok h2⟩
    have := List.contains_iff_mem.mpr z
    rw [this] at h1
    cases h1
def scopeB (N : List Str) (np : Nat) (sc : Scope) : Bool :=
  (match sc.kind with | .function => true | _ => false) && (!sc.isCoroutine && (!sc.isGenerator && (nodupB N && (decide (np ≤ N.length) && ((N.take np).all (fun x => match sc.names.lookup x with
    | some .local => true
    | some .cell => true
    | _ => false) && sc.names.all fun y => match y.2 with
    | .free => false
    | _ => true)))))
theorem scopeB_ok {N : List Str} {np : Nat} {sc : Scope} (h : scopeB N np sc = true) : FnScope N (N.take np) sc ∧ np ≤ N.length := by
  unfold scopeB at h
  obtain ⟨h1, h⟩ := and2 h
  obtain ⟨h2, h⟩ := and2 h
  obtain ⟨h3, h⟩ := and2 h
  obtain ⟨h4, h⟩ := and2 h
  obtain ⟨h5, h⟩ := and2 h
  obtain ⟨h6, h7⟩ := and2 h
  have h5 : np ≤ N.length := of_decide_eq_true h5
  refine ⟨⟨?_, not_t h2, not_t h3, nodupB_ok h4, ?_, fun x hx => ?_, fun y hy z => ?_⟩, h5⟩
  · split at h1
    · assumption
    · cases h1
  · rw [List.length_take, Nat.min_eq_left h5]
  · have q := List.all_eq_true.mp h6 x hx
    split at q
    · rename_i e; exact .inl e
    · rename_i e; exact .inr e
    · cases q
  · have q := List.all_eq_true.mp h7 y hy
    rw [z] at q
    cases q
def entB (fns : List FnI) (gls : List Str) (E : Ent) : Bool := scopeB E.N E.np E.scope && (mSs (E.gam fns gls) E.io E.ir E.body && (!E.io || decide (0 < E.np)))
section
variable {RX : RXT} {K : PySem.W.Frag} {B : Addr → Prop} {args : List Sl} {vs : List V} {e' : Env} {σ' : L2.St} {H H' : Hp}
theorem app_none {a : Type} {l : List (Option a)} {m i : Nat} {x : a} (h : (l ++ List.replicate m none)[i]? = some (some x)) : l[i]? = some (some x) := by
  by_cases hi : i < l.length
  · rw [List.getElem?_append_left hi] at h
    exact h
  · rw [List.getElem?_append_right (by omega), List.getElem?_replicate] at h
    split at h <;> cases h
theorem app_some {a : Type} {l : List (Option a)} {m i : Nat} {x : Option a} (h : l[i]? = some x) : (l ++ List.replicate m none)[i]? = some x := by
  rw [List.getElem?_append_left (List.getElem?_eq_some_iff.mp h).1]
  exact h
theorem own_more {e : Env} {σ : L2.St} {m n : Nat} {a : Addr} : OwnAt (e ++ List.replicate m none) (σ ++ List.replicate n none) a ↔ OwnAt e σ a :=
  ⟨fun ⟨i, m, ds, h1, h2⟩ => ⟨i, m, ds, app_none h1, app_none h2⟩, fun ⟨i, m, ds, h1, h2⟩ => ⟨i, m, ds, app_some h1, app_some h2⟩⟩
theorem RSt.more {e : Env} {σ : L2.St} (rs : RSt K B H e σ) (m : Nat) : RSt K B H (e ++ List.replicate m none) (σ ++ List.replicate m none) := by
  have of : ∀ a, Of B (e ++ List.replicate m none) (σ ++ List.replicate m none) a → Of B e σ a := fun a h => h.imp id own_more.mp
  refine ⟨by rw [List.length_append, List.length_append, rs.len, List.length_replicate, List.length_replicate], fun i d h => ?_, fun i _ ds h => ?_, fun i j _ _ ds es a h1 h2 h3 h4 => rs.inj i j ds es a (app_none h1) (app_none h2) (app_none h3) (app_none h4), rs.bnd, rs.tb⟩
  · obtain ⟨v, w1, w2⟩ := rs.val i d (app_none h)
    exact ⟨v, app_some w1, Rp.mono (S := fun _ => False) ⟨fun _ _ q _ _ => q, fun _ z => z.elim⟩ (fun _ z => z.elim) (fun b q => .inl (of b q)) w2⟩
  · obtain ⟨a, us, w1, w2, w3, w4⟩ := rs.own i ds (app_none h)
    exact ⟨a, us, app_some w1, w2, w3, Rpo.mono (S := fun _ => False) ⟨fun _ _ q _ _ => q, fun _ z => z.elim⟩ (fun _ z => z.elim) (fun b q => .inl (of b q)) w4⟩
def allVal (l : List Sl) : Bool := l.all fun | .val _ => true | _ => false
theorem no_ownV (h : allVal args = true) {i : Nat} {m : Bool} {ds : List D} : (args.map some)[i]? ≠ some (some (Sl.ow m ds)) := fun z => by
  rw [List.getElem?_map] at z
  cases q : args[i]? with
  | none => rw [q] at z; cases z
  | some x =>
    rw [q] at z
    cases z
    have := List.all_eq_true.mp h _ (List.mem_of_getElem? q)
    cases this
/-- values alone: as they were -/
theorem back_vals {m n : Nat} (h : allVal args = true) (rs : RSt K B H (args.map some) (vs.map some)) (rs' : RSt K B H' e' σ') (st : Stp H (args.map some ++ List.replicate m none) (vs.map some ++ List.replicate n none) H' e' σ') :
    RSt K B H' (args.map some) (vs.map some) ∧ Stp H (args.map some) (vs.map some) H' (args.map some) (vs.map some) ∧ ∀ a, Of B (args.map some) (vs.map some) a → Of B e' σ' a := by
  have no : ∀ a, ¬ OwnAt (args.map some) (vs.map some) a := fun a ⟨i, _, ds, h1, _⟩ => no_ownV h h1
  have s : Stp H (args.map some) (vs.map some) H' (args.map some) (vs.map some) := ⟨fun a o q tt n => st.fr a o q tt fun z => n (own_more.mp z), st.al, fun a z => (no a z).elim⟩
  refine ⟨⟨rs.len, fun i d q => ?_, fun i _ ds q => (no_ownV h q).elim, fun i j _ _ ds es a q => (no_ownV h q).elim, rs'.bnd, rs'.tb⟩, s, fun a z => z.elim .inl fun w => (no a w).elim⟩
  obtain ⟨v, w1, w2⟩ := rs.val i d q
  exact ⟨v, w1, rs.keep s w2⟩
/-- the first one's own list, the others as they were -/
theorem back_io {m n : Nat} {cs0 cs : List D} {r : List Sl} (h : allVal r = true) (rs : RSt K B H ((Sl.own cs0 :: r).map some) (vs.map some)) (rs' : RSt K B H' e' σ')
    (st : Stp H ((Sl.own cs0 :: r).map some ++ List.replicate m none) (vs.map some ++ List.replicate n none) H' e' σ') (hc : e'[0]? = some (some (Sl.own cs))) (h0 : σ'[0]? = (vs.map some ++ List.replicate n none)[0]?) :
    RSt K B H' ((Sl.own cs :: r).map some) (vs.map some) ∧ Stp H ((Sl.own cs0 :: r).map some) (vs.map some) H' ((Sl.own cs :: r).map some) (vs.map some) ∧ ∀ a, Of B ((Sl.own cs :: r).map some) (vs.map some) a → Of B e' σ' a := by
  obtain ⟨p, us0, w1, w2, w3, w4⟩ := rs.own 0 cs0 rfl
  obtain ⟨p', us, x1, x2, x3, x4⟩ := rs'.own 0 cs hc
  rw [h0, app_some w1] at x1
  cases x1
  have at0 : ∀ {c : List D} {i : Nat} {m : Bool} {ds : List D}, ((Sl.own c :: r).map some)[i]? = some (some (Sl.ow m ds)) → i = 0 ∧ m = false ∧ ds = c := fun {c i m ds} z => by
    cases i with
    | zero => cases z; exact ⟨rfl, rfl, rfl⟩
    | succ i => exact (no_ownV h (i := i) z).elim
  have own1 : ∀ {c : List D} {a : Addr}, OwnAt ((Sl.own c :: r).map some) (vs.map some) a → a = p := fun {c a} ⟨i, _, ds, h1, h2⟩ => by
    obtain ⟨rfl, rfl, rfl⟩ := at0 h1
    rw [w1] at h2
    cases h2
    rfl
  have own2 : OwnAt ((Sl.own cs0 :: r).map some) (vs.map some) p := ⟨0, false, cs0, rfl, w1⟩
  have of : ∀ a, Of B ((Sl.own cs :: r).map some) (vs.map some) a → Of B e' σ' a := fun a z => z.elim .inl fun w => .inr ⟨0, false, cs, hc, by rw [own1 w, h0]; exact app_some w1⟩
  have s : Stp H ((Sl.own cs0 :: r).map some) (vs.map some) H' ((Sl.own cs :: r).map some) (vs.map some) := ⟨fun a o q tt n => st.fr a o q tt fun z => n (own_more.mp z), st.al, fun a z => .inl (by rw [own1 z]; exact own2)⟩
  refine ⟨⟨?_, fun i d q => ?_, fun i _ ds q => ?_, fun i j _ _ ds es a q1 q2 _ _ => (at0 q1).1.trans (at0 q2).1.symm, rs'.bnd, rs'.tb⟩, s, of⟩
  · have := rs.len
    rw [List.length_map, List.length_cons] at this
    rw [List.length_map, List.length_cons]
    exact this
  · have q' : ((Sl.own cs0 :: r).map some)[i]? = some (some (Sl.val d)) := by
      cases i with
      | zero => cases q
      | succ i => exact q
    obtain ⟨v, y1, y2⟩ := rs.val i d q'
    exact ⟨v, y1, rs.keep s y2⟩
  · obtain ⟨rfl, rfl, rfl⟩ := at0 q
    exact ⟨p, us, w1, x2, x3, Rpo.mono (m := false) (S := fun _ => False) ⟨fun _ _ q _ _ => q, fun _ z => z.elim⟩ (fun _ z => z.elim) (fun b q => .inl (of b q)) x4⟩
end
/-! ### the table -/
section
variable {RX : RXT} {P : Program} {w : World} {K : PySem.W.Frag} {mg : Str → Option Value} {base : Heap} {glob : Nat → D} {gv : Nat → V} {fuel : Nat} {E : List Ent} {gls : List Str} {ad : Nat → Addr} {fd : Nat → FuncData}
theorem fn_get {i : Nat} {F : Fn} (h : (E.map Ent.fn)[i]? = some F) : ∃ e, E[i]? = some e ∧ F = e.fn := by
  rw [List.getElem?_map] at h
  cases q : E[i]? with
  | none => rw [q] at h; cases h
  | some e => rw [q] at h; cases h; exact ⟨e, rfl, rfl⟩
theorem fi_get {i : Nat} {F : FnI} (h : (E.map Ent.fi)[i]? = some F) : ∃ e, E[i]? = some e ∧ F = e.fi := by
  rw [List.getElem?_map] at h
  cases q : E[i]? with
  | none => rw [q] at h; cases h
  | some e => rw [q] at h; cases h; exact ⟨e, rfl, rfl⟩
theorem fits_len {F : Fn} {args : List Sl} (h : argsFit F args = true) : args.length = F.np := by
  unfold argsFit at h
  simpa using (and2 h).1
theorem st0_ok (hK : E.all (entB (E.map Ent.fi) gls) = true) (hgd : ∀ (g : Nat) (n : Str), gls[g]? = some n → ∀ O H, Rp K O H (glob g) (gv g)) (n : Nat) (Γ : Gam) (hf : Γ.fns = E.map Ent.fi) (hg : Γ.gls = gls) :
    St0 Γ ⟨callN glob fuel (E.map Ent.fn) n, glob, fuel⟩ gv K := by
  refine ⟨fun f fi args h hne => ?_, fun g x h => hgd g x (by rw [← hg]; exact h)⟩
  rw [hf] at h
  obtain ⟨e, he, rfl⟩ := fi_get h
  show callN glob fuel (E.map Ent.fn) n f args = .no
  cases n with
  | zero => rfl
  | succ n =>
    have hm : (E.map Ent.fn)[f]? = some e.fn := by rw [List.getElem?_map, he]; rfl
    have hb := List.all_eq_true.mp hK e (List.mem_of_getElem? he)
    have hl := (scopeB_ok (and2 hb).1).2
    unfold callN
    rw [hm]
    show (if argsFit e.fn args = true then _ else O.no) = O.no
    rw [if_neg]
    intro z
    refine hne ?_
    rw [fits_len z]
    show e.np = (e.N.take e.np).length
    rw [List.length_take, Nat.min_eq_left hl]
/-- a def's promise by its body; its code object is told -/
theorem fund_ok {CX : CXT} {x qual : Str} {params : Arguments} {body : List PySem.Stmt} {scope : Scope} {dvs : List V} {kws : List (Str × V)} {f : Addr} {fd1 : FuncData} {N ps : List Str} {k : Nat} {sp : Sp} (F : FunD K x qual params body scope dvs kws f fd1) (S : FnScope N ps scope) (len : ∀ vs H Q Ex, sp vs H Q Ex → vs.length = ps.length)
    (hb : ∀ (cdv : Value) (A : Around) (outer : List PySem.Env) (s : Shared) (H : Hp) (vs : List V) (Q : VK) (Ex : XK), fd1.code = cdv → Room k (A.deeper (envOfC qual scope s.heap.objs.size f cdv)) → sp vs H Q Ex →
      ∃ t, PSs (cxOf CX P w K mg base N qual scope f cdv A outer s H Ex) body t ∧ t { nx := fun _ H' => Q .non H', rt := Q } (L2.start N vs) H) : FnOk P w K mg base CX (k + 1) f fd1 ps sp := by
  obtain ⟨_, _, _, _, _, _, _, cdv, _, _, rfl, lk, hcd, _, _⟩ := F.ex
  exact fn_of lk hcd S len fun A outer s H vs Q Ex hr hsp => hb cdv A outer s H vs Q Ex rfl hr hsp
/-- the defs that make lambdas: their code objects, their tables -/
def LamFacts [TabT] (E : List Ent) (base : Heap) (mg : Str → Option Value) (fd : Nat → FuncData) : Prop :=
  ∀ (i : Nat) (e : Ent), E[i]? = some e → e.lam = true → ∃ c Pt, (fd i).code = .ref c ∧ LamX.TabB base mg c Pt ∧ (Pt, (e.name ++ ".<locals>.") ++ "<lambda>") ∈ TabT.T ∧ ∀ p ∈ TabT.T, p.1 = Pt → p.2 = (e.name ++ ".<locals>.") ++ "<lambda>"
theorem lev (hLm : LamFacts E base mg fd) (hD : ∀ (i : Nat) (e : Ent), E[i]? = some e → FunD K e.name e.name e.params e.body e.scope [] [] (ad i) (fd i)) (hG : ∀ (i : Nat) (e : Ent), E[i]? = some e → mg e.name = some (.ref (ad i)))
    (hB : ∀ (i : Nat) (e : Ent), E[i]? = some e → Binds K (fd i) (e.N.take e.np) []) (hK : E.all (entB (E.map Ent.fi) gls) = true) (hgl : ∀ (g : Nat) (n : Str), gls[g]? = some n → ∃ u, mg n = some u ∧ RelV (gv g) u)
    (hgd : ∀ (g : Nat) (n : Str), gls[g]? = some n → ∀ O H, Rp K O H (glob g) (gv g)) (hbt : ∀ n, n ∈ bltNames → mg n = none) :
    ∀ (n i : Nat) (e : Ent), E[i]? = some e → FnOk P w K mg base (L2.CX P w) n (ad i) (fd i) (e.N.take e.np) (spF RX K (callN glob fuel (E.map Ent.fn) n) i (e.N.take e.np).length) := by
  intro n
  induction n with
  | zero =>
    intro i e he
    refine ⟨fun vs H Q Ex h => h.1, fun A outer s H args us vs Q Ex hr e0 hb hv hsp => ?_⟩
    obtain ⟨_, B, as, _, h⟩ := hsp
    exact h.elim
  | succ n ih =>
    intro i e he
    have hb := List.all_eq_true.mp hK e (List.mem_of_getElem? he)
    obtain ⟨hb1, hb2⟩ := and2 hb
    obtain ⟨hb2, hb3⟩ := and2 hb2
    obtain ⟨S, hl⟩ := scopeB_ok hb1
    have hpl : (e.N.take e.np).length = e.np := by rw [List.length_take, Nat.min_eq_left hl]
    refine fund_ok (hD i e he) S (fun vs H Q Ex h => h.1) fun cdv A outer s H vs Q Ex hcode hr hsp => ?_
    have g0 : St0 (e.gam (E.map Ent.fi) gls) ⟨callN glob fuel (E.map Ent.fn) n, glob, fuel⟩ gv K := st0_ok hK hgd n _ rfl rfl
    obtain ⟨t, pt, qt⟩ := (main_s (RX := RX) (W := fun cls d _ H' => Ex cls d H') (io := e.io) g0 e.ir).2 e.body hb2
    refine ⟨t, pt (cxOf (L2.CX P w) P w K mg base e.N e.name e.scope (ad i) cdv A outer s H Ex) ?_ rfl, ?_⟩
    · refine ⟨⟨rfl, S.nd, rfl, rfl, S.kind, fun _ _ => rfl, L2.takes_of rfl rfl rfl rfl, ?_, fun f fi hf => ?_, fun g x hx => hgl g x hx, fun x hx => hbt x hx, ?_, fun hl => ?_⟩, L2.passes_of rfl⟩
      · have := hr.un
        show (A.deeper _).units + 65 < cLine
        omega
      · obtain ⟨e2, he2, rfl⟩ := fi_get hf
        exact ⟨ad f, fd f, n, hG f e2 he2, (hD f e2 he2).kp, hB f e2 he2, hr, ih f e2 he2⟩
      · have := hr.dp
        show (A.deeper _).depth < recursionLimit
        omega
      · obtain ⟨c, Pt, q1, q2, q3, q4⟩ := hLm i e he hl
        exact ⟨c, Pt, hcode.symm.trans q1, q2, q3, q4⟩
    · obtain ⟨hlen, B, args, rs, h⟩ := hsp
      have hm : (E.map Ent.fn)[i]? = some e.fn := by rw [List.getElem?_map, he]; rfl
      have h : (match (match (E.map Ent.fn)[i]? with
          | none => O.no
          | some F => if argsFit F args = true then runFn ⟨callN glob fuel (E.map Ent.fn) n, glob, fuel⟩ F args else .no) with
        | .ok d cs => ∀ v H', RSt K B H' ((retArgs args cs).map some) (vs.map some) → Stp H (args.map some) (vs.map some) H' ((retArgs args cs).map some) (vs.map some) → Rp K (Of B ((retArgs args cs).map some) (vs.map some)) H' d v → Q v H'
        | .ex x => ∀ cl dd H', RSt K B H' (args.map some) (vs.map some) → Stp H (args.map some) (vs.map some) H' (args.map some) (vs.map some) → RX x cl dd H' → Ex cl dd H'
        | .no => False) := h
      rw [hm] at h
      by_cases hfit : argsFit e.fn args = true
      case neg =>
        simp only [if_neg hfit] at h
      case pos =>
      simp only [if_pos hfit] at h
      have hal : args.length = e.np := fits_len hfit
      have hvl : vs.length = e.np := hlen.trans hpl
      have es : L2.start e.N vs = vs.map some ++ List.replicate (e.N.length - e.np) none := by unfold L2.start; rw [hvl]
      rw [es]
      refine qt B (args.map some ++ List.replicate (e.N.length - e.np) none) (vs.map some ++ List.replicate (e.N.length - e.np) none) H _ (rs.more _) ?_
      unfold runFn at h
      have h : (match (match denS ⟨callN glob fuel (E.map Ent.fn) n, glob, fuel⟩ e.ir (args.map some ++ List.replicate (e.N.length - e.np) none) with
          | .ok .nx e' => endOf e.io .non e'
          | .ok (.rt d) e' => endOf e.io d e'
          | .ex x _ => match e.io with
            | false => O.ex x
            | true => .no
          | _ => .no) with
        | .ok d cs => ∀ v H', RSt K B H' ((retArgs args cs).map some) (vs.map some) → Stp H (args.map some) (vs.map some) H' ((retArgs args cs).map some) (vs.map some) → Rp K (Of B ((retArgs args cs).map some) (vs.map some)) H' d v → Q v H'
        | .ex x => ∀ cl dd H', RSt K B H' (args.map some) (vs.map some) → Stp H (args.map some) (vs.map some) H' (args.map some) (vs.map some) → RX x cl dd H' → Ex cl dd H'
        | .no => False) := h
      -- what the arguments are
      have shape : (e.io = false ∧ allVal args = true) ∨ ∃ cs0 r, e.io = true ∧ args = Sl.own cs0 :: r ∧ allVal r = true := by
        unfold argsFit at hfit
        obtain ⟨_, f2⟩ := and2 hfit
        cases args with
        | nil =>
          obtain ⟨f3, f4⟩ := and2 f2
          exact .inl ⟨not_t f3, f4⟩
        | cons a r =>
          cases a with
          | ow m cs0 =>
            cases m with
            | false =>
              obtain ⟨f3, f4⟩ := and2 f2
              exact .inr ⟨cs0, r, f3, rfl, f4⟩
            | true =>
              obtain ⟨_, f4⟩ := and2 f2
              cases f4
          | val d =>
            obtain ⟨f3, f4⟩ := and2 f2
            exact .inl ⟨not_t f3, f4⟩
      have fin : ∀ (d : D) (e' : Env), (match endOf e.io d e' with
        | .ok d cs => ∀ v H', RSt K B H' ((retArgs args cs).map some) (vs.map some) → Stp H (args.map some) (vs.map some) H' ((retArgs args cs).map some) (vs.map some) → Rp K (Of B ((retArgs args cs).map some) (vs.map some)) H' d v → Q v H'
        | .ex x => ∀ cl dd H', RSt K B H' (args.map some) (vs.map some) → Stp H (args.map some) (vs.map some) H' (args.map some) (vs.map some) → RX x cl dd H' → Ex cl dd H'
        | .no => False) → ∀ σ' H', RSt K B H' e' σ' → Stp H (args.map some ++ List.replicate (e.N.length - e.np) none) (vs.map some ++ List.replicate (e.N.length - e.np) none) H' e' σ' →
          (e.io = true → σ'[0]? = (vs.map some ++ List.replicate (e.N.length - e.np) none)[0]?) → ∀ v, Rp K (Of B e' σ') H' d v → Q v H' := by
        intro d e' h σ' H' rs' st' pin v rv
        rcases shape with ⟨hio, hav⟩ | ⟨cs0, r, hio, rfl, hav⟩
        · rw [hio] at h
          have hra : retArgs args [] = args := by
            cases args with
            | nil => rfl
            | cons a r => cases a with
              | val d => rfl
              | ow _ _ => cases hav
          obtain ⟨b1, b2, b3⟩ := back_vals hav rs rs' st'
          have h : ∀ v H', RSt K B H' ((retArgs args []).map some) (vs.map some) → Stp H (args.map some) (vs.map some) H' ((retArgs args []).map some) (vs.map some) → Rp K (Of B ((retArgs args []).map some) (vs.map some)) H' d v → Q v H' := h
          rw [hra] at h
          exact h v H' b1 b2 (Rp.mono (S := fun _ => False) ⟨fun _ _ q _ _ => q, fun _ z => z.elim⟩ (fun _ z => z.elim) (fun b q => .inl (b3 b q)) rv)
        · rw [hio] at h
          unfold endOf at h
          cases hc : getO e' 0 with
          | none => rw [hc] at h; exact h.elim
          | some cs =>
            rw [hc] at h
            obtain ⟨b1, b2, b3⟩ := back_io hav rs rs' st' (getO_own hc) (pin hio)
            exact h v H' b1 b2 (Rp.mono (S := fun _ => False) ⟨fun _ _ q _ _ => q, fun _ z => z.elim⟩ (fun _ z => z.elim) (fun b q => .inl (b3 b q)) rv)
      cases hr2 : denS ⟨callN glob fuel (E.map Ent.fn) n, glob, fuel⟩ e.ir (args.map some ++ List.replicate (e.N.length - e.np) none) with
      | ok fl e' =>
        rw [hr2] at h
        intro σ' H' rs' st' pin
        cases fl with
        | nx => exact fin .non e' h σ' H' rs' st' pin .non (by unfold Rp; rfl)
        | rt d => exact fin d e' h σ' H' rs' st' pin
        | bk => exact h.elim
        | ct => exact h.elim
      | ex x e' =>
        rw [hr2] at h
        intro σ' c dd H' rs' st' rx
        rcases shape with ⟨hio, hav⟩ | ⟨cs0, r, hio, rfl, hav⟩
        · rw [hio] at h
          obtain ⟨b1, b2, b3⟩ := back_vals hav rs rs' st'
          exact h c dd H' b1 b2 rx
        · rw [hio] at h
          exact h.elim
      | no => rw [hr2] at h; exact h.elim
/-- the law's promise -/
theorem law_sp {c : Call} {f : Nat} {H : Hp} {a : Addr} {ns : List Int} {cs : List D} (hS : SqL K H a (ns.map V.int)) (hO : ∀ xs, H a ≠ some (.lst xs)) (hT : LamX.Tabs TabT.T H) (h : c f [.val (.fz (ns.map D.int))] = .ok (.bl true) cs) :
    spF RX K c f 1 [.ref a] H (fun v _ => v = .bl true) fun _ _ _ => False := by
  refine ⟨rfl, fun _ => False, [.val (.fz (ns.map D.int))], ⟨rfl, fun i d q => ?_, fun i _ ds q => ?_, fun i j _ _ ds es b q => ?_, fun b z => z.elim, hT⟩, ?_⟩
  · cases i with
    | zero =>
      cases q
      refine ⟨.ref a, rfl, ?_⟩
      unfold Rp
      refine ⟨a, ns.map V.int, rfl, ?_, Rps.ints ns⟩
      rcases hS with (hS | hS) | hS
      · exact absurd hS (hO _)
      · exact .inr (.inl hS)
      · exact .inl hS
    | succ i => cases q
  · cases i with
    | zero => cases q
    | succ i => cases q
  · cases i with
    | zero => cases q
    | succ i => cases q
  · rw [h]
    exact fun v H' _ _ r => r.unbl
theorem cx_no {H : Hp} {s : Shared} {e : Value} {s' : Shared} (h : L2.CX P w [] H s (fun _ _ _ => False) e s') : False := by
  obtain ⟨_, _, _, _, _, _, _, _, _, _, _, _, z⟩ := h
  exact z.elim
end
end Ev
set_option Elab.async false
set_option linter.all false
set_option maxRecDepth 100000
set_option maxHeartbeats 4000000
set_option autoImplicit false
/-! Ev15: from the head's facts to the law's def. -/
namespace Ev
open PySem PySem.Spec PyProof.Rows L2
/-- the end: what the law's def may let out hangs on the world -/
theorem walkW {l : PySem.W.OpenLaw} {m kk : Nat} {qq : Program} {ls : List Str} {X1 : (Str → Option Value) → Heap → Prop} {Y1 : World → Heap → Prop} {dr : DefRec} {CX : World → CXT} {x : Str} (h1 : l.most = some m) (h2 : m ≤ sizeLine) (h3 : dr.params.defaults = []) (h4 : Room kk callerA)
    (F : ∀ (w : World) (mg : Str → Option Value) (fa : Addr) (h : Heap), Y1 w h → h.Ns mainGlobals mg → mg dr.name = some (.ref fa) → ∃ (K : PySem.W.Frag) (fd : FuncData) (sp : Sp), K.In h ∧ (∀ (s : Shared) (u : Value), BindsTo s fd ⟨[u], []⟩ [(x, u)]) ∧
      (∀ (H : Hp) (a : Addr) (ns : List Int), ns.length ≤ m → Only H → SqL K H a (ns.map V.int) → sp [.ref a] H (fun v _ => v = .bl true) fun _ _ _ => False) ∧ ∀ base : Heap, K.In base → base.Ns mainGlobals mg → FnOk l.prog w K mg base (CX w) kk fa fd [x] sp)
    (h5 : ∀ (w : World) (H : Hp) (s : Shared) (e : Value) (s' : Shared), CX w [] H s (fun _ _ _ => False) e s' → False) : PySem.W.WalkO qq ls X1 Y1 l.row.toRowW dr [] (fun f vs => PySem.call f vs) := by
  refine Att.attach_call h1 h3 fun w1 c0 c1 gm gb lf ob pc dc dd la its zs g0 y0 g1 g2 g3 g4 g5 g6 g7 g8 => ?_
  obtain ⟨K, fd, sp, k1, k2, k3, k4⟩ := F w1 gm lf _ y0 g0.T.g g4
  exact law_call k1 g0.T.g g0.T.b g0.T.builtins g0.T.nolimit g8 g5 g6 (Nat.le_trans g7 h2) h4 k4 k2 (fun H o q => k3 H la zs g7 o q) fun H e s' z => h5 w1 H c1 e s' z
def dOf (e : Ent) : He.DefD := ⟨(e.name, none), e.name, e.name, e.params, e.body, e.scope, [], []⟩
def faOf (E : List Ent) (gls : List Str) (glv : List Int) : List He.Fa := E.map (fun e => He.Fa.glo e.name) ++ (bltNames.map He.Fa.free ++ (gls.zip glv).map fun q => He.Fa.int q.1 q.2)
def globI (glv : List Int) (g : Nat) : D := .int (glv.getD g 0)
def RX0 : RXT := fun _ _ _ _ => False
section
variable {P : Program} {w : World} {K : PySem.W.Frag} {h : Heap} {mg : Str → Option Value} {f : Addr} {E : List Ent} {gls : List Str} {glv : List Int}
theorem SaysD.fact_mem {fa : List He.Fa} {fn : List He.DefD} (c : He.SaysD fa fn K) {a : He.Fa} (hm : a ∈ fa) : a.ok K = true := by
  obtain ⟨i, hi⟩ := List.mem_iff_getElem?.mp hm
  exact c.fact i hi
theorem tabs0 {H : Hp} : LamX.Tabs (@TabT.T tab0) H := fun p hp => by
  have hp : p ∈ ([] : List (Addr × Str)) := hp
  cases hp
theorem facts_ofL [TabT] {cs : List (Addr × Addr)} {lk : Nat} {enL : Ent} {x : Str} (X : K.In h) (G : h.Ns mainGlobals mg) (hfa : mg enL.name = some (.ref f)) (c : He.SaysD (faOf E gls glv) (E.map dOf) K) (depth fuel : Nat) (hl : E[lk]? = some enL) (hx : enL.N.take enL.np = [x])
    (hK : E.all (entB (E.map Ent.fi) gls) = true) (hlen : gls.length = glv.length)
    (hbd : ∀ (i : Nat) (e : Ent), E[i]? = some e → ∀ {f : Addr} {fd : FuncData}, FunD K e.name e.name e.params e.body e.scope [] [] f fd → Binds K fd (e.N.take e.np) [])
    (hbA : ∀ {f : Addr} {fd : FuncData}, FunD K enL.name enL.name enL.params enL.body enL.scope [] [] f fd → ∀ (s : Shared) (v : Value), BindsTo s fd ⟨[v], []⟩ [(x, v)])
    (hLm : ∀ fdF : Nat → FuncData, (∀ (i : Nat) (e : Ent), E[i]? = some e → FunD K e.name e.name e.params e.body e.scope [] [] (He.ga K e.name) (fdF i)) → ∀ base : Heap, (∀ p ∈ cs, LamX.TabB base mg p.1 p.2) → LamFacts E base mg fdF) :
    ∃ fd : FuncData, (∀ (s : Shared) (v : Value), BindsTo s fd ⟨[v], []⟩ [(x, v)]) ∧ ∀ base : Heap, K.In base → base.Ns mainGlobals mg → (∀ p ∈ cs, LamX.TabB base mg p.1 p.2) → FnOk P w K mg base (L2.CX P w) depth f fd [x] (spF RX0 K (callN (globI glv) fuel (E.map Ent.fn) depth) lk 1) := by
  have hD0 : ∀ (i : Nat) (e : Ent), E[i]? = some e → ∃ fd, FunD K e.name e.name e.params e.body e.scope [] [] (He.ga K e.name) fd := fun i e he =>
    c.def_ i (d := dOf e) (by rw [List.getElem?_map, he]; rfl)
  obtain ⟨fd0, F0⟩ := hD0 lk enL hl
  have hD1 : ∀ i : Nat, ∃ fd, ∀ (e : Ent), E[i]? = some e → FunD K e.name e.name e.params e.body e.scope [] [] (He.ga K e.name) fd := fun i => by
    cases q : E[i]? with
    | none => exact ⟨fd0, fun e z => by cases z⟩
    | some e =>
      obtain ⟨fd, F⟩ := hD0 i e q
      exact ⟨fd, fun e' z => by cases z; exact F⟩
  obtain ⟨fdF, hD⟩ := Classical.axiomOfChoice hD1
  have hglo : ∀ (i : Nat) (e : Ent), E[i]? = some e → mg e.name = some (.ref (He.ga K e.name)) := fun i e he =>
    He.glo_ok X G (SaysD.fact_mem c (a := .glo e.name) (List.mem_append_left _ (List.mem_map.mpr ⟨e, List.mem_of_getElem? he, rfl⟩)))
  have hfree : ∀ n, n ∈ bltNames → mg n = none := fun n hn =>
    He.free_ok X G (SaysD.fact_mem c (a := .free n) (List.mem_append_right _ (List.mem_append_left _ (List.mem_map.mpr ⟨n, hn, rfl⟩))))
  have hint : ∀ (g : Nat) (n : Str), gls[g]? = some n → ∃ u, mg n = some u ∧ RelV (V.int (glv.getD g 0)) u := fun g n hg => by
    have hi : g < gls.length := (List.getElem?_eq_some_iff.mp hg).1
    have hv : glv[g]? = some (glv.getD g 0) := by
      rw [List.getD_eq_getElem?_getD, List.getElem?_eq_getElem (by omega)]
      rfl
    have hm : (n, glv.getD g 0) ∈ gls.zip glv := by
      refine List.mem_of_getElem? (i := g) ?_
      rw [List.getElem?_zip_eq_some]
      exact ⟨hg, hv⟩
    obtain ⟨t, ht⟩ := He.int_ok X G (SaysD.fact_mem c (a := .int n (glv.getD g 0)) (List.mem_append_right _ (List.mem_append_right _ (List.mem_map.mpr ⟨_, hm, rfl⟩))))
    exact ⟨_, ht, t, rfl⟩
  have e := hfa.symm.trans (hglo lk enL hl)
  cases e
  refine ⟨fdF lk, fun s v => hbA (hD lk enL hl) s v, fun base hb hN hTB => ?_⟩
  have q := lev (RX := RX0) (P := P) (w := w) (K := K) (mg := mg) (base := base) (glob := globI glv) (gv := fun g => V.int (glv.getD g 0)) (fuel := fuel) (E := E) (gls := gls) (ad := fun i => match E[i]? with
    | some e => He.ga K e.name
    | none => 0) (fd := fdF) (hLm fdF hD base hTB) (fun i e he => by simp only [he]; exact hD i e he) (fun i e he => by simp only [he]; exact hglo i e he) (fun i e he => hbd i e he (hD i e he)) hK hint (fun g n _ O H => by unfold globI Rp; rfl) hfree depth lk enL hl
  simp only [hl, hx] at q
  exact q
/-- no def makes a lambda -/
theorem facts_of {lk : Nat} {enL : Ent} {x : Str} (X : K.In h) (G : h.Ns mainGlobals mg) (hfa : mg enL.name = some (.ref f)) (c : He.SaysD (faOf E gls glv) (E.map dOf) K) (depth fuel : Nat) (hl : E[lk]? = some enL) (hx : enL.N.take enL.np = [x])
    (hK : E.all (entB (E.map Ent.fi) gls) = true) (hlen : gls.length = glv.length)
    (hbd : ∀ (i : Nat) (e : Ent), E[i]? = some e → ∀ {f : Addr} {fd : FuncData}, FunD K e.name e.name e.params e.body e.scope [] [] f fd → Binds K fd (e.N.take e.np) [])
    (hbA : ∀ {f : Addr} {fd : FuncData}, FunD K enL.name enL.name enL.params enL.body enL.scope [] [] f fd → ∀ (s : Shared) (v : Value), BindsTo s fd ⟨[v], []⟩ [(x, v)]) (hno : E.all (fun e => !e.lam) = true) :
    ∃ fd : FuncData, (∀ (s : Shared) (v : Value), BindsTo s fd ⟨[v], []⟩ [(x, v)]) ∧ ∀ base : Heap, K.In base → base.Ns mainGlobals mg → FnOk P w K mg base (L2.CX P w) depth f fd [x] (@spF tab0 RX0 K (callN (globI glv) fuel (E.map Ent.fn) depth) lk 1) := by
  obtain ⟨fd, h1, h2⟩ := @facts_ofL P w K h mg f E gls glv tab0 [] lk enL x X G hfa c depth fuel hl hx hK hlen hbd hbA fun fdF _ base _ i e he hl => by
    have := List.all_eq_true.mp hno e (List.mem_of_getElem? he)
    rw [hl] at this
    cases this
  exact ⟨fd, h1, fun base a b => h2 base a b fun p hp => by cases hp⟩
/-! ### with lambdas -/
abbrev lamDefs (E : List Ent) : List He.Defn := (E.filter (·.lam)).map fun e => (e.name, none)
def qualL (x : Str) : Str := (x ++ ".<locals>.") ++ "<lambda>"
def tabIn (K : PySem.W.Frag) (E : List Ent) : TabT := ⟨(lamDefs E).map fun p => ((He.cT K p).2, qualL p.1)⟩
/-- the tables stand apart -/
def apart (E : List Ent) (K : PySem.W.Frag) : Bool := decide ((lamDefs E).map fun p => (He.cT K p).2).Nodup
theorem nodup_fst {α β γ : Type} {f : α → β} {g : α → γ} : ∀ {l : List α}, (l.map f).Nodup → ∀ {a b : α}, a ∈ l → b ∈ l → f a = f b → g a = g b
  | [], _, _, _, ha, _, _ => by cases ha
  | x :: l, h, a, b, ha, hb, e => by
    rw [List.map_cons, List.nodup_cons] at h
    obtain ⟨h1, h2⟩ := h
    rcases List.mem_cons.mp ha with ea | ha
    · rcases List.mem_cons.mp hb with eb | hb
      · rw [ea, eb]
      · exact absurd (List.mem_map.mpr ⟨b, hb, by rw [← e, ea]⟩) h1
    · rcases List.mem_cons.mp hb with eb | hb
      · exact absurd (List.mem_map.mpr ⟨a, ha, by rw [e, eb]⟩) h1
      · exact nodup_fst h2 ha hb e
theorem lam_facts (hap : apart E K = true) {base : Heap} {fdF : Nat → FuncData} (hD : ∀ (i : Nat) (e : Ent), E[i]? = some e → FunD K e.name e.name e.params e.body e.scope [] [] (He.ga K e.name) (fdF i))
    (hB : ∀ p ∈ (lamDefs E).map (He.cT K), LamX.TabB base mg p.1 p.2) : @LamFacts (tabIn K E) E base mg fdF := by
  intro i e he hl
  have hm : (e.name, none) ∈ lamDefs E := List.mem_map.mpr ⟨e, List.mem_filter.mpr ⟨List.mem_of_getElem? he, hl⟩, rfl⟩
  obtain ⟨oc, od, dV, kV, doc, pm, an, cdv, ct, osl, e1, lk, hcd, _, _⟩ := (hD i e he).ex
  obtain ⟨c, ec⟩ := He.codeIn_ref hcd
  have lk' : K.lookup (He.fAd K (e.name, none)) = some ⟨oc, od, .func (fdF i), osl⟩ := lk
  have cc : (fdF i).code = .ref c := by rw [e1, ← ec]
  have c1 : (He.cT K (e.name, none)).1 = c := He.codeOf_eq lk' cc
  refine ⟨c, (He.cT K (e.name, none)).2, cc, by rw [← c1]; exact hB _ (List.mem_map.mpr ⟨_, hm, rfl⟩), List.mem_map.mpr ⟨_, hm, rfl⟩, fun p hp q => ?_⟩
  obtain ⟨r, hr, rfl⟩ := List.mem_map.mp hp
  have nd : ((lamDefs E).map fun p => (He.cT K p).2).Nodup := by
    unfold apart at hap
    exact of_decide_eq_true hap
  have q : (fun p : He.Defn => (He.cT K p).2) r = (fun p : He.Defn => (He.cT K p).2) (e.name, none) := q
  have z := nodup_fst (f := fun p : He.Defn => (He.cT K p).2) (g := fun p : He.Defn => qualL p.1) nd hr hm q
  exact z
end
end Ev
set_option Elab.async false
set_option linter.all false
set_option maxRecDepth 100000
set_option maxHeartbeats 4000000
set_option autoImplicit false
/-! Ev15L: the law's end where defs make lambdas (variant lam). -/
namespace Ev
open PySem PySem.Spec PyProof.Rows L2
theorem walkX {l : PySem.W.OpenLaw} {m kk : Nat} {qq : Program} {ls : List Str} {X1 : (Str → Option Value) → Heap → Prop} {Y1 : World → Heap → Prop} {dr : DefRec} {x : Str} (h1 : l.most = some m) (h2 : m ≤ sizeLine) (h3 : dr.params.defaults = []) (h4 : Room kk callerA)
    (F : ∀ (w : World) (mg : Str → Option Value) (fa : Addr) (h : Heap), Y1 w h → h.Ns mainGlobals mg → mg dr.name = some (.ref fa) → ∃ K : PySem.W.Frag, K.In h ∧ LamX.LawAtS l w K (L2.CX l.prog w) kk m x mg fa h) :
    PySem.W.WalkO qq ls X1 Y1 l.row.toRowW dr [] (fun f vs => PySem.call f vs) :=
  LamX.walk_ofTsE h1 h2 h3 h4 F fun _ _ _ _ _ z => cx_no z
/-! ### the script's list frozen -/
section
variable {P : Program} {w : World} {K : PySem.W.Frag} {mg : Str → Option Value} {base : Heap} {k : Nat} {f : Addr} {fd : FuncData} {ps : List Str} {sp : Sp} {H : Hp} {a : Addr} {us : List V} {o : Obj}
/-- as promised, or as promised once a list is frozen -/
def FzS (sp : Sp) : Sp := fun vs H Q E => sp vs H Q E ∨ ∃ (a : Addr) (us : List V), H a = some (.lst us) ∧ (E = fun _ _ _ => False) ∧ ∀ o, sp vs (upd H a (.frz o (.lst us))) Q E
theorem hok_fz {h : Heap} (x : HOk P w H h) (ha : H a = some (.lst us)) (ho : h.get? a = some o) : HOk P w (upd H a (.frz o (.lst us))) h := fun b u e => by
  have st : ∀ {b : Addr} {u : HO}, ObjOk P w H h b u → ObjOk P w (upd H a (.frz o (.lst us))) h b u := fun {b u} y => y.stay (fun _ _ _ q => q) (fun c q => by
    rw [upd_ne (fun z => by rw [z, ha] at q; cases q)]; exact q) fun c xs q => by
    rw [upd_ne (fun z => by rw [z, ha] at q; cases q)]; exact q
  by_cases hb : b = a
  · subst hb
    rw [upd_same] at e
    cases e
    exact ⟨ho, st (x b _ ha)⟩
  · rw [upd_ne hb] at e
    exact st (x b u e)
theorem none_fz (ha : H a = some (.lst us)) {b : Addr} : upd H a (.frz o (.lst us)) b = none ↔ H b = none := by
  by_cases hb : b = a
  · subst hb
    rw [upd_same, ha]
    constructor <;> intro h <;> cases h
  · rw [upd_ne hb]
theorem fn_fz (F : FnOk P w K mg base (L2.CX P w) k f fd ps sp) : FnOk P w K mg base (L2.CX P w) k f fd ps (FzS sp) := by
  refine ⟨fun vs H Q E h => ?_, fun A outer s H args us vs Q E hr e0 hb hv hsp => ?_⟩
  · rcases h with h | ⟨a, us, _, _, h⟩
    · exact F.len _ _ _ _ h
    · exact F.len _ _ _ _ (h { cls := .none, data := .fields #[] })
  · rcases hsp with h | ⟨a, ls, ha, hE, h⟩
    · exact F.run A outer s H args us vs Q E hr e0 hb hv h
    · obtain ⟨o, ho⟩ : ∃ o, s.heap.get? a = some o := by
        obtain ⟨_, its, n, _, e⟩ := e0.hok a _ ha
        exact ⟨_, e⟩
      have e1 : Env0 P w K mg base A outer s (upd H a (.frz o (.lst ls))) := ⟨e0.frames, e0.mod, fun b ob q => ⟨(e0.bs b ob q).1, (none_fz ha).mpr (e0.bs b ob q).2⟩, e0.bsz, e0.funs, fun b hb => (none_fz ha).mpr (e0.frf b hb), hok_fz e0.hok ha ho, e0.bare⟩
      refine codeAny_mono (F.run A outer s _ args us vs Q E hr e1 hb hv (h o)) fun r s' q => ?_
      cases r with
      | error e =>
        subst hE
        obtain ⟨_, _, _, _, _, _, _, _, _, _, _, _, z⟩ := q
        exact z.elim
      | ok fl =>
        cases fl with
        | ret u =>
          obtain ⟨v, H', q1, q2, un, q3, q4, q5⟩ := q
          exact ⟨v, H', q1, q2, ⟨fun b ob g n => un.keep b ob g ((none_fz ha).mpr n), fun b ob g n => un.slot b ob g ((none_fz ha).mpr n), fun b ob g n => un.free b ob g ((none_fz ha).mpr n), un.there,
            fun b xs g => un.tups b xs (by rw [upd_ne (fun z => by rw [z, ha] at g; cases g)]; exact g), fun b ob u g => un.frzs b ob u (by rw [upd_ne (fun z => by rw [z, ha] at g; cases g)]; exact g), fun b ps g => un.tbls b ps (by rw [upd_ne (fun z => by rw [z, ha] at g; cases g)]; exact g)⟩, q3, q4, q5⟩
        | next => exact False.elim q
        | brk => exact False.elim q
        | cont => exact False.elim q
end
/-- the law at the head's heap, with lambdas -/
theorem lawAt {l : PySem.W.OpenLaw} {w : World} {K : PySem.W.Frag} {h : Heap} {mg : Str → Option Value} {f : Addr} {E : List Ent} {gls : List Str} {glv : List Int} {lk m : Nat} {enL : Ent} {x : Str} (X : K.In h) (G : h.Ns mainGlobals mg) (hfa : mg enL.name = some (.ref f))
    (c : He.SaysX (faOf E gls glv) (E.map dOf) [] (lamDefs E) (apart E) w h K) (depth fuel : Nat) (hl : E[lk]? = some enL) (hx : enL.N.take enL.np = [x]) (hK : E.all (entB (E.map Ent.fi) gls) = true) (hlen : gls.length = glv.length)
    (hbd : ∀ (i : Nat) (e : Ent), E[i]? = some e → ∀ {f : Addr} {fd : FuncData}, FunD K e.name e.name e.params e.body e.scope [] [] f fd → Binds K fd (e.N.take e.np) [])
    (hbA : ∀ {f : Addr} {fd : FuncData}, FunD K enL.name enL.name enL.params enL.body enL.scope [] [] f fd → ∀ (s : Shared) (v : Value), BindsTo s fd ⟨[v], []⟩ [(x, v)])
    (plain : ∀ ns : List Int, ns.length ≤ m → ∃ cs, callN (globI glv) fuel (E.map Ent.fn) depth lk [.val (.fz (ns.map D.int))] = .ok (.bl true) cs) :
    LamX.LawAtS l w K (L2.CX l.prog w) depth m x mg f h := by
  obtain ⟨fd, q1, q2⟩ := @facts_ofL l.prog w K h mg f E gls glv (tabIn K E) ((lamDefs E).map (He.cT K)) lk enL x X G hfa c.t.d depth fuel hl hx hK hlen hbd hbA fun fdF hD base hB => lam_facts c.more hD hB
  refine ⟨fd, (lamDefs E).map (He.cT K), FzS _, fun p hp => ?_, fun p hp => ?_, fun p hp => ?_, q1, fun H a ns hn _ hT hS => ?_, fun base b1 b2 b3 => fn_fz (q2 base b1 b2 b3)⟩
  · obtain ⟨r, hr, rfl⟩ := List.mem_map.mp hp
    exact c.empty r hr
  · obtain ⟨r, hr, rfl⟩ := List.mem_map.mp hp
    exact c.out r hr
  · obtain ⟨r, hr, rfl⟩ := List.mem_map.mp hp
    exact PySem.W.codeHd_of_K X (c.hd r hr)
  · obtain ⟨cs, e⟩ := plain ns hn
    by_cases hl : ∃ xs, H a = some (.lst xs)
    · obtain ⟨xs, hl⟩ := hl
      refine .inr ⟨a, xs, hl, rfl, fun o => @law_sp (tabIn K E) RX0 K _ _ (upd H a (.frz o (.lst xs))) a ns cs ?_ (fun ys z => by rw [upd_same] at z; cases z) (fun p hp => ?_) e⟩
      · rcases hS with (hS | hS) | hS
        · rw [hl] at hS; cases hS
          exact .inl (.inr ⟨o, upd_same⟩)
        · obtain ⟨o, hS⟩ := hS
          rw [hl] at hS; cases hS
        · exact .inr hS
      · obtain ⟨r, hr, rfl⟩ := List.mem_map.mp hp
        have z := hT _ (List.mem_map.mpr ⟨r, hr, rfl⟩)
        exact LamX.TabS.nil (by
          rw [upd_ne (fun y => by
            have z2 := (congrArg H y).symm.trans z
            rw [hl] at z2; cases z2)]
          exact z)
    · refine .inl (@law_sp (tabIn K E) RX0 K _ _ H a ns cs hS (fun xs z => hl ⟨xs, z⟩) (fun p hp => ?_) e)
      obtain ⟨r, hr, rfl⟩ := List.mem_map.mp hp
      exact LamX.TabS.nil (hT _ (List.mem_map.mpr ⟨r, hr, rfl⟩))
end Ev
set_option Elab.async false
set_option linter.all false
set_option maxRecDepth 100000
set_option maxHeartbeats 4000000
/-! the trees of the linked text (printed) -/
namespace Lw
open PySem Ev
def top (i : Nat) : PySem.Stmt := PySem.Challenge.pw_meshcore_k31_known_order_types.main.body.getD i (.Pass ⟨0, 0, 0, 0⟩)
/-- 0 -/
def ir0 : Sm := (.cons (.ret (.and (.isi .isInt (.var 0)) (.and (.not (.isi .isBool (.var 0))) (.cmp2 .le .le (.var 1) (.var 0) (.var 2))))) .nil)
def en0 : Ent := { name := "is_in", np := 3, N := ["value", "least", "most"], io := false, ir := ir0, params := L2.defArgs (top 13), body := L2.defBody (top 13), scope := L2.defScope (top 13) }
/-- 1 -/
def ir1 : Sm := (.cons (.par2 0 1 (.prim .abs (.cons (.var 0) .nil)) (.prim .abs (.cons (.var 1) .nil))) (.cons (.whl (.cmp .ne (.var 1) (.lit (.int 0))) (.cons (.par2 0 1 (.var 1) (.bin .mod (.var 0) (.var 1))) .nil)) (.cons (.ret (.var 0)) .nil)))
def en1 : Ent := { name := "gcd", np := 2, N := ["one", "other"], io := false, ir := ir1, params := L2.defArgs (top 14), body := L2.defBody (top 14), scope := L2.defScope (top 14) }
/-- 2 -/
def ir2 : Sm := (.cons (.asg (.nm 2) (.call 1 none (.cons (.var 0) (.cons (.var 1) .nil)))) (.cons (.ite (.cmp .lt (.var 1) (.lit (.int 0))) (.cons (.asg (.nm 2) (.neg (.var 2))) .nil) .nil) (.cons (.ret (.tup (.cons (.bin .fdiv (.var 0) (.var 2)) (.cons (.bin .fdiv (.var 1) (.var 2)) .nil)))) .nil)))
def en2 : Ent := { name := "reduced", np := 2, N := ["numerator", "denominator", "common"], io := false, ir := ir2, params := L2.defArgs (top 15), body := L2.defBody (top 15), scope := L2.defScope (top 15) }
/-- 3 -/
def ir3 : Sm := (.cons (.ret (.call 2 none (.cons (.bin .add (.bin .mul (.ix (.var 0) (.lit (.int 0))) (.ix (.var 1) (.lit (.int 1)))) (.bin .mul (.ix (.var 1) (.lit (.int 0))) (.ix (.var 0) (.lit (.int 1))))) (.cons (.bin .mul (.ix (.var 0) (.lit (.int 1))) (.ix (.var 1) (.lit (.int 1)))) .nil)))) .nil)
def en3 : Ent := { name := "plus", np := 2, N := ["one", "other"], io := false, ir := ir3, params := L2.defArgs (top 16), body := L2.defBody (top 16), scope := L2.defScope (top 16) }
/-- 4 -/
def ir4 : Sm := (.cons (.ret (.call 2 none (.cons (.bin .sub (.bin .mul (.ix (.var 0) (.lit (.int 0))) (.ix (.var 1) (.lit (.int 1)))) (.bin .mul (.ix (.var 1) (.lit (.int 0))) (.ix (.var 0) (.lit (.int 1))))) (.cons (.bin .mul (.ix (.var 0) (.lit (.int 1))) (.ix (.var 1) (.lit (.int 1)))) .nil)))) .nil)
def en4 : Ent := { name := "minus", np := 2, N := ["one", "other"], io := false, ir := ir4, params := L2.defArgs (top 17), body := L2.defBody (top 17), scope := L2.defScope (top 17) }
/-- 5 -/
def ir5 : Sm := (.cons (.ret (.call 2 none (.cons (.bin .mul (.ix (.var 0) (.lit (.int 0))) (.ix (.var 1) (.lit (.int 0)))) (.cons (.bin .mul (.ix (.var 0) (.lit (.int 1))) (.ix (.var 1) (.lit (.int 1)))) .nil)))) .nil)
def en5 : Ent := { name := "times", np := 2, N := ["one", "other"], io := false, ir := ir5, params := L2.defArgs (top 18), body := L2.defBody (top 18), scope := L2.defScope (top 18) }
/-- 6 -/
def ir6 : Sm := (.cons (.ret (.call 2 none (.cons (.bin .mul (.ix (.var 0) (.lit (.int 0))) (.ix (.var 1) (.lit (.int 1)))) (.cons (.bin .mul (.ix (.var 0) (.lit (.int 1))) (.ix (.var 1) (.lit (.int 0)))) .nil)))) .nil)
def en6 : Ent := { name := "over", np := 2, N := ["one", "other"], io := false, ir := ir6, params := L2.defArgs (top 19), body := L2.defBody (top 19), scope := L2.defScope (top 19) }
/-- 7 -/
def ir7 : Sm := (.cons (.ite (.or (.not (.isi .isTup (.var 0))) (.cmp .ne (.prim .len (.cons (.var 0) .nil)) (.lit (.int 2)))) (.cons (.ret (.lit (.bl false))) .nil) .nil) (.cons (.for_ (.nm 1) (.items (.var 0)) (.cons (.ite (.or (.not (.isi .isInt (.var 1))) (.isi .isBool (.var 1))) (.cons (.ret (.lit (.bl false))) .nil) .nil) .nil)) (.cons (.ret (.and (.cmp .gt (.ix (.var 0) (.lit (.int 1))) (.lit (.int 0))) (.cmp .eq (.call 1 none (.cons (.ix (.var 0) (.lit (.int 0))) (.cons (.ix (.var 0) (.lit (.int 1))) .nil))) (.lit (.int 1))))) .nil)))
def en7 : Ent := { name := "is_ratio", np := 1, N := ["value", "item"], io := false, ir := ir7, params := L2.defArgs (top 20), body := L2.defBody (top 20), scope := L2.defScope (top 20) }
/-- 8 -/
def ir8 : Sm := (.cons (.ret (.bin .sub (.cmp .gt (.var 0) (.lit (.int 0))) (.cmp .lt (.var 0) (.lit (.int 0))))) .nil)
def en8 : Ent := { name := "sign", np := 1, N := ["number"], io := false, ir := ir8, params := L2.defArgs (top 21), body := L2.defBody (top 21), scope := L2.defScope (top 21) }
/-- 9 -/
def ir9 : Sm := (.cons (.asg (.nm 3) (.call 1 none (.cons (.call 1 none (.cons (.var 0) (.cons (.var 1) .nil))) (.cons (.var 2) .nil)))) (.cons (.ite (.cmp .lt (.var 2) (.lit (.int 0))) (.cons (.asg (.nm 3) (.neg (.var 3))) .nil) .nil) (.cons (.ret (.tup (.cons (.bin .fdiv (.var 0) (.var 3)) (.cons (.bin .fdiv (.var 1) (.var 3)) (.cons (.bin .fdiv (.var 2) (.var 3)) .nil))))) .nil)))
def en9 : Ent := { name := "lowest", np := 3, N := ["x", "y", "w", "common"], io := false, ir := ir9, params := L2.defArgs (top 25), body := L2.defBody (top 25), scope := L2.defScope (top 25) }
/-- 10 -/
def ir10 : Sm := (.cons (.ite (.or (.not (.isi .isTup (.var 0))) (.cmp .ne (.prim .len (.cons (.var 0) .nil)) (.lit (.int 3)))) (.cons (.ret (.lit (.bl false))) .nil) .nil) (.cons (.ite (.or (.not (.call 0 none (.cons (.ix (.var 0) (.lit (.int 0))) (.cons (.neg (.gval 0)) (.cons (.gval 0) .nil))))) (.not (.call 0 none (.cons (.ix (.var 0) (.lit (.int 1))) (.cons (.neg (.gval 0)) (.cons (.gval 0) .nil)))))) (.cons (.ret (.lit (.bl false))) .nil) .nil) (.cons (.ret (.and (.call 0 none (.cons (.ix (.var 0) (.lit (.int 2))) (.cons (.lit (.int 1)) (.cons (.gval 0) .nil)))) (.cmp .eq (.call 1 none (.cons (.call 1 none (.cons (.ix (.var 0) (.lit (.int 0))) (.cons (.ix (.var 0) (.lit (.int 1))) .nil))) (.cons (.ix (.var 0) (.lit (.int 2))) .nil))) (.lit (.int 1))))) .nil)))
def en10 : Ent := { name := "is_point", np := 1, N := ["value"], io := false, ir := ir10, params := L2.defArgs (top 26), body := L2.defBody (top 26), scope := L2.defScope (top 26) }
/-- 11 -/
def ir11 : Sm := (.cons (.ite (.not (.call 10 none (.cons (.var 0) .nil))) (.cons .never .nil) .nil) .nil)
def en11 : Ent := { name := "need_point", np := 1, N := ["value"], io := false, ir := ir11, params := L2.defArgs (top 27), body := L2.defBody (top 27), scope := L2.defScope (top 27) }
/-- 12 -/
def ir12 : Sm := (.cons (.ite (.or (.not (.isi .isTup (.var 0))) (.not (.cmp2 .le .le (.lit (.int 1)) (.prim .len (.cons (.var 0) .nil)) (.gval 1)))) (.cons .never .nil) .nil) (.cons (.for_ (.nm 1) (.rng1 (.prim .len (.cons (.var 0) .nil))) (.cons (.ite (.or (.not (.call 10 none (.cons (.ix (.var 0) (.var 1)) .nil))) (.cmp .mem (.ix (.var 0) (.var 1)) (.sl (.var 0) (.lit .non) (.var 1)))) (.cons .never .nil) .nil) .nil)) .nil))
def en12 : Ent := { name := "need_points", np := 1, N := ["value", "at"], io := false, ir := ir12, params := L2.defArgs (top 28), body := L2.defBody (top 28), scope := L2.defScope (top 28) }
/-- 13 -/
def ir13 : Sm := (.cons (.asg (.nm 2) (.call 8 none (.cons (.bin .sub (.bin .mul (.ix (.var 0) (.lit (.int 0))) (.ix (.var 1) (.lit (.int 2)))) (.bin .mul (.ix (.var 1) (.lit (.int 0))) (.ix (.var 0) (.lit (.int 2))))) .nil))) (.cons (.ret (.ite (.cmp .ne (.var 2) (.lit (.int 0))) (.var 2) (.call 8 none (.cons (.bin .sub (.bin .mul (.ix (.var 0) (.lit (.int 1))) (.ix (.var 1) (.lit (.int 2)))) (.bin .mul (.ix (.var 1) (.lit (.int 1))) (.ix (.var 0) (.lit (.int 2))))) .nil)))) .nil))
def en13 : Ent := { name := "order_of", np := 2, N := ["a", "b", "found"], io := false, ir := ir13, params := L2.defArgs (top 29), body := L2.defBody (top 29), scope := L2.defScope (top 29) }
/-- 14 -/
def ir14 : Sm := (.cons (.asg (.nm 1) (.lit (.int 1))) (.cons (.for_ (.nm 2) (.items (.var 0)) (.cons (.asg (.nm 1) (.bin .mul (.bin .fdiv (.var 1) (.call 1 none (.cons (.var 1) (.cons (.ix (.var 2) (.lit (.int 2))) .nil)))) (.ix (.var 2) (.lit (.int 2))))) .nil)) (.cons (.ret (.var 1)) .nil)))
def en14 : Ent := { name := "common_weight", np := 1, N := ["points", "found", "p"], io := false, ir := ir14, params := L2.defArgs (top 30), body := L2.defBody (top 30), scope := L2.defScope (top 30) }
/-- 15 -/
def ir15 : Sm := (.cons (.asg (.nm 1) (.call 14 none (.cons (.var 0) .nil))) (.cons (.ret (.tup (.cons (.lc [2] (.nm 2) (.items (.var 0)) (.lit (.bl true)) (.tup (.cons (.bin .mul (.ix (.var 2) (.lit (.int 0))) (.bin .fdiv (.var 1) (.ix (.var 2) (.lit (.int 2))))) (.cons (.bin .mul (.ix (.var 2) (.lit (.int 1))) (.bin .fdiv (.var 1) (.ix (.var 2) (.lit (.int 2))))) .nil)))) (.cons (.var 1) .nil)))) .nil))
def en15 : Ent := { name := "scaled", np := 1, N := ["points", "weight", "p"], io := false, ir := ir15, params := L2.defArgs (top 31), body := L2.defBody (top 31), scope := L2.defScope (top 31) }
/-- 16 -/
def ir16 : Sm := (.cons (.exp (.call 12 none (.cons (.var 0) .nil))) (.cons (.asg (.tp (.cons (.nm 1) (.cons (.nm 2) .nil))) (.call 15 none (.cons (.var 0) .nil))) (.cons (.ret (.prim .tuple (.cons (.rank 1 (.prim .len (.cons (.var 0) .nil))) .nil))) .nil)))
def en16 : Ent := { name := "ranked", np := 1, N := ["points", "pairs", "weight"], io := false, ir := ir16, params := L2.defArgs (top 32), body := L2.defBody (top 32), scope := L2.defScope (top 32), lam := true }
/-- 17 -/
def ir17 : Sm := (.cons (.asg (.nm 3) (.bin .mul (.ix (.var 0) (.lit (.int 0))) (.bin .sub (.bin .mul (.ix (.var 1) (.lit (.int 1))) (.ix (.var 2) (.lit (.int 2)))) (.bin .mul (.ix (.var 2) (.lit (.int 1))) (.ix (.var 1) (.lit (.int 2))))))) (.cons (.asg (.nm 4) (.bin .mul (.ix (.var 0) (.lit (.int 1))) (.bin .sub (.bin .mul (.ix (.var 1) (.lit (.int 0))) (.ix (.var 2) (.lit (.int 2)))) (.bin .mul (.ix (.var 2) (.lit (.int 0))) (.ix (.var 1) (.lit (.int 2))))))) (.cons (.ret (.bin .add (.bin .sub (.var 3) (.var 4)) (.bin .mul (.ix (.var 0) (.lit (.int 2))) (.bin .sub (.bin .mul (.ix (.var 1) (.lit (.int 0))) (.ix (.var 2) (.lit (.int 1)))) (.bin .mul (.ix (.var 2) (.lit (.int 0))) (.ix (.var 1) (.lit (.int 1)))))))) .nil)))
def en17 : Ent := { name := "doubled", np := 3, N := ["a", "b", "c", "first", "second"], io := false, ir := ir17, params := L2.defArgs (top 34), body := L2.defBody (top 34), scope := L2.defScope (top 34) }
/-- 18 -/
def ir18 : Sm := (.cons (.ret (.call 8 none (.cons (.call 17 none (.cons (.var 0) (.cons (.var 1) (.cons (.var 2) .nil)))) .nil))) .nil)
def en18 : Ent := { name := "turn_of", np := 3, N := ["a", "b", "c"], io := false, ir := ir18, params := L2.defArgs (top 35), body := L2.defBody (top 35), scope := L2.defScope (top 35) }
/-- 19 -/
def ir19 : Sm := (.cons (.ite (.cmp .eq (.call 13 none (.cons (.var 0) (.cons (.var 1) .nil))) (.lit (.int 0))) (.cons (.ret (.cmp .eq (.call 13 none (.cons (.var 0) (.cons (.var 2) .nil))) (.lit (.int 0)))) .nil) .nil) (.cons (.ret (.and (.cmp .eq (.call 18 none (.cons (.var 0) (.cons (.var 1) (.cons (.var 2) .nil)))) (.lit (.int 0))) (.cmp .ge (.bin .mul (.call 13 none (.cons (.var 0) (.cons (.var 2) .nil))) (.call 13 none (.cons (.var 2) (.cons (.var 1) .nil)))) (.lit (.int 0))))) .nil))
def en19 : Ent := { name := "is_between", np := 3, N := ["a", "b", "p"], io := false, ir := ir19, params := L2.defArgs (top 36), body := L2.defBody (top 36), scope := L2.defScope (top 36) }
/-- 20 -/
def ir20 : Sm := (.cons (.ret (.lc3 [1, 2, 3] (.nm 1) (.rng1 (.var 0)) [2, 3] (.nm 2) (.rng2 (.bin .add (.var 1) (.lit (.int 1))) (.var 0)) [3] (.nm 3) (.rng2 (.bin .add (.var 2) (.lit (.int 1))) (.var 0)) (.lit (.bl true)) (.tup (.cons (.var 1) (.cons (.var 2) (.cons (.var 3) .nil)))))) .nil)
def en20 : Ent := { name := "triples_of", np := 1, N := ["many", "a", "b", "c"], io := false, ir := ir20, params := L2.defArgs (top 39), body := L2.defBody (top 39), scope := L2.defScope (top 39) }
/-- 21 -/
def ir21 : Sm := (.cons (.exp (.call 12 none (.cons (.var 0) .nil))) (.cons (.ite (.cmp .lt (.prim .len (.cons (.var 0) .nil)) (.lit (.int 3))) (.cons .never .nil) .nil) (.cons (.ret (.prim .tuple (.cons (.lc [1, 2, 3] (.tp (.cons (.nm 1) (.cons (.nm 2) (.cons (.nm 3) .nil)))) (.items (.call 20 none (.cons (.prim .len (.cons (.var 0) .nil)) .nil))) (.lit (.bl true)) (.call 18 none (.cons (.ix (.var 0) (.var 1)) (.cons (.ix (.var 0) (.var 2)) (.cons (.ix (.var 0) (.var 3)) .nil))))) .nil))) .nil)))
def en21 : Ent := { name := "signs_of", np := 1, N := ["points", "a", "b", "c"], io := false, ir := ir21, params := L2.defArgs (top 40), body := L2.defBody (top 40), scope := L2.defScope (top 40) }
/-- 22 -/
def ir22 : Sm := (.cons (.ite (.not (.call 0 none (.cons (.var 0) (.cons (.lit (.int 3)) (.cons (.lit (.int 5)) .nil))))) (.cons .never .nil) .nil) (.cons (.ite (.or (.not (.isi .isTup (.var 1))) (.cmp .ne (.prim .len (.cons (.var 1) .nil)) (.bin .fdiv (.bin .mul (.bin .mul (.var 0) (.bin .sub (.var 0) (.lit (.int 1)))) (.bin .sub (.var 0) (.lit (.int 2)))) (.lit (.int 6))))) (.cons .never .nil) .nil) (.cons (.for_ (.nm 2) (.rng1 (.prim .len (.cons (.var 1) .nil))) (.cons (.ite (.or (.not (.call 0 none (.cons (.ix (.var 1) (.var 2)) (.cons (.neg (.lit (.int 1))) (.cons (.lit (.int 1)) .nil))))) (.cmp .eq (.ix (.var 1) (.var 2)) (.lit (.int 0)))) (.cons .never .nil) .nil) .nil)) .nil)))
def en22 : Ent := { name := "need_signs", np := 2, N := ["many", "signs", "at"], io := false, ir := ir22, params := L2.defArgs (top 41), body := L2.defBody (top 41), scope := L2.defScope (top 41) }
/-- 23 -/
def ir23 : Sm := (.cons (.dnew 2) (.cons (.for_ (.tp (.cons (.nm 3) (.cons (.nm 4) .nil))) (.zip (.call 20 none (.cons (.var 0) .nil)) (.var 1)) (.cons (.dput 2 (.var 3) (.var 4)) .nil)) (.cons (.ret (.var 2)) .nil)))
def en23 : Ent := { name := "table_of", np := 2, N := ["many", "signs", "found", "triple", "sign"], io := false, ir := ir23, params := L2.defArgs (top 42), body := L2.defBody (top 42), scope := L2.defScope (top 42) }
/-- 24 -/
def ir24 : Sm := (.cons (.asg (.nm 4) (.bin .add (.bin .add (.prim .int (.cons (.cmp .gt (.var 1) (.var 2)) .nil)) (.prim .int (.cons (.cmp .gt (.var 1) (.var 3)) .nil))) (.prim .int (.cons (.cmp .gt (.var 2) (.var 3)) .nil)))) (.cons (.ret (.bin .mul (.ix (.var 0) (.prim .tuple (.cons (.prim .sorted (.cons (.lst (.cons (.var 1) (.cons (.var 2) (.cons (.var 3) .nil)))) .nil)) .nil))) (.ite (.cmp .eq (.bin .mod (.var 4) (.lit (.int 2))) (.lit (.int 1))) (.neg (.lit (.int 1))) (.lit (.int 1))))) .nil))
def en24 : Ent := { name := "oriented", np := 4, N := ["table", "a", "b", "c", "swaps"], io := false, ir := ir24, params := L2.defArgs (top 43), body := L2.defBody (top 43), scope := L2.defScope (top 43) }
/-- 25 -/
def ir25 : Sm := (.cons (.ret (.cmp3 .eq .eq .eq (.ix (.var 0) (.tup (.cons (.var 2) (.cons (.var 3) (.cons (.var 4) .nil))))) (.ix (.var 0) (.tup (.cons (.var 1) (.cons (.var 2) (.cons (.var 4) .nil))))) (.neg (.ix (.var 0) (.tup (.cons (.var 1) (.cons (.var 3) (.cons (.var 4) .nil)))))) (.neg (.ix (.var 0) (.tup (.cons (.var 1) (.cons (.var 2) (.cons (.var 3) .nil)))))))) .nil)
def en25 : Ent := { name := "four_contradict", np := 5, N := ["table", "a", "b", "c", "d"], io := false, ir := ir25, params := L2.defArgs (top 44), body := L2.defBody (top 44), scope := L2.defScope (top 44) }
/-- 26 -/
def ir26 : Sm := (.cons (.for_ (.nm 2) (.items (.var 1)) (.cons (.asg (.tp (.cons (.nm 3) (.cons (.nm 4) (.cons (.nm 5) (.cons (.nm 6) .nil))))) (.lc [9] (.nm 9) (.items (.var 1)) (.cmp .ne (.var 9) (.var 2)) (.var 9))) (.cons (.asg (.nm 7) (.bin .mul (.call 24 none (.cons (.var 0) (.cons (.var 2) (.cons (.var 3) (.cons (.var 4) .nil))))) (.call 24 none (.cons (.var 0) (.cons (.var 2) (.cons (.var 5) (.cons (.var 6) .nil))))))) (.cons (.asg (.nm 8) (.bin .mul (.call 24 none (.cons (.var 0) (.cons (.var 2) (.cons (.var 3) (.cons (.var 6) .nil))))) (.call 24 none (.cons (.var 0) (.cons (.var 2) (.cons (.var 4) (.cons (.var 5) .nil))))))) (.cons (.ite (.cmp2 .eq .eq (.var 7) (.var 8) (.bin .mul (.neg (.call 24 none (.cons (.var 0) (.cons (.var 2) (.cons (.var 3) (.cons (.var 5) .nil)))))) (.call 24 none (.cons (.var 0) (.cons (.var 2) (.cons (.var 4) (.cons (.var 6) .nil))))))) (.cons (.ret (.lit (.bl true))) .nil) .nil) .nil))))) (.cons (.ret (.lit (.bl false))) .nil))
def en26 : Ent := { name := "five_contradict", np := 2, N := ["table", "labels", "x", "p", "q", "r", "t", "first", "second", "label"], io := false, ir := ir26, params := L2.defArgs (top 45), body := L2.defBody (top 45), scope := L2.defScope (top 45) }
/-- 27 -/
def ir27 : Sm := (.cons (.exp (.call 22 none (.cons (.var 0) (.cons (.var 1) .nil)))) (.cons (.asg (.nm 2) (.call 23 none (.cons (.var 0) (.cons (.var 1) .nil)))) (.cons (.for_ (.tp (.cons (.nm 3) (.cons (.nm 4) (.cons (.nm 5) .nil)))) (.items (.call 20 none (.cons (.var 0) .nil))) (.cons (.for_ (.nm 6) (.rng2 (.bin .add (.var 5) (.lit (.int 1))) (.var 0)) (.cons (.ite (.call 25 none (.cons (.var 2) (.cons (.var 3) (.cons (.var 4) (.cons (.var 5) (.cons (.var 6) .nil)))))) (.cons (.ret (.tup (.cons (.var 3) (.cons (.var 4) (.cons (.var 5) (.cons (.var 6) .nil)))))) .nil) .nil) .nil)) .nil)) (.cons (.ite (.and (.cmp .eq (.var 0) (.lit (.int 5))) (.call 26 none (.cons (.var 2) (.cons (.lst (.cons (.lit (.int 0)) (.cons (.lit (.int 1)) (.cons (.lit (.int 2)) (.cons (.lit (.int 3)) (.cons (.lit (.int 4)) .nil)))))) .nil)))) (.cons (.ret (.tup (.cons (.lit (.int 0)) (.cons (.lit (.int 1)) (.cons (.lit (.int 2)) (.cons (.lit (.int 3)) (.cons (.lit (.int 4)) .nil))))))) .nil) .nil) (.cons (.ret (.lit .non)) .nil)))))
def en27 : Ent := { name := "contradiction", np := 2, N := ["many", "signs", "table", "a", "b", "c", "d"], io := false, ir := ir27, params := L2.defArgs (top 46), body := L2.defBody (top 46), scope := L2.defScope (top 46) }
/-- 28 -/
def ir28 : Sm := (.cons (.asg (.nm 3) (.prim .len (.cons (.var 0) .nil))) (.cons (.for_ (.nm 4) (.rng1 (.var 3)) (.cons (.for_ (.nm 5) (.rng2 (.bin .add (.var 4) (.lit (.int 1))) (.var 3)) (.cons (.ite (.cmp .ne (.call 18 none (.cons (.ix (.var 0) (.var 4)) (.cons (.ix (.var 0) (.var 5)) (.cons (.var 1) .nil)))) (.ix (.var 2) (.tup (.cons (.var 4) (.cons (.var 5) (.cons (.var 3) .nil)))))) (.cons (.ret (.lit (.bl false))) .nil) .nil) .nil)) .nil)) (.cons (.ret (.lit (.bl true))) .nil)))
def en28 : Ent := { name := "fits", np := 3, N := ["points", "p", "table", "last", "a", "b"], io := false, ir := ir28, params := L2.defArgs (top 47), body := L2.defBody (top 47), scope := L2.defScope (top 47) }
/-- 29 -/
def ir29 : Sm := (.cons (.ite (.cmp .eq (.prim .len (.cons (.var 0) .nil)) (.var 1)) (.cons (.ret (.prim .tuple (.cons (.var 0) .nil))) .nil) .nil) (.cons (.for_ (.nm 3) (.rng2 (.lit (.int 1)) (.lit (.int 3))) (.cons (.for_ (.nm 4) (.rng3 (.neg (.gval 2)) (.bin .add (.bin .mul (.lit (.int 2)) (.gval 2)) (.lit (.int 1))) (.bin .sub (.lit (.int 3)) (.var 3))) (.cons (.for_ (.nm 5) (.rng3 (.neg (.gval 2)) (.bin .add (.bin .mul (.lit (.int 2)) (.gval 2)) (.lit (.int 1))) (.bin .sub (.lit (.int 3)) (.var 3))) (.cons (.ite (.call 28 none (.cons (.var 0) (.cons (.tup (.cons (.var 4) (.cons (.var 5) (.cons (.lit (.int 1)) .nil)))) (.cons (.var 2) .nil)))) (.cons (.asg (.nm 6) (.call 29 none (.cons (.bin .add (.var 0) (.lst (.cons (.tup (.cons (.var 4) (.cons (.var 5) (.cons (.lit (.int 1)) .nil)))) .nil))) (.cons (.var 1) (.cons (.var 2) .nil))))) (.cons (.ite (.cmp .notN (.var 6) (.lit .non)) (.cons (.ret (.var 6)) .nil) .nil) .nil)) .nil) .nil)) .nil)) .nil)) (.cons (.ret (.lit .non)) .nil)))
def en29 : Ent := { name := "grown", np := 3, N := ["points", "many", "table", "size", "x", "y", "found"], io := false, ir := ir29, params := L2.defArgs (top 48), body := L2.defBody (top 48), scope := L2.defScope (top 48) }
/-- 30 -/
def ir30 : Sm := (.cons (.ite (.cmp .notN (.call 27 none (.cons (.var 0) (.cons (.var 1) .nil))) (.lit .non)) (.cons (.ret (.lit .non)) .nil) .nil) (.cons (.asg (.nm 2) (.call 23 none (.cons (.var 0) (.cons (.var 1) .nil)))) (.cons (.asg (.nm 3) (.lst (.cons (.tup (.cons (.lit (.int 0)) (.cons (.lit (.int 0)) (.cons (.lit (.int 1)) .nil)))) (.cons (.tup (.cons (.gval 2) (.cons (.lit (.int 0)) (.cons (.lit (.int 1)) .nil)))) (.cons (.tup (.cons (.lit (.int 0)) (.cons (.gval 2) (.cons (.lit (.int 1)) .nil)))) .nil))))) (.cons (.ite (.cmp .gt (.ix (.var 2) (.tup (.cons (.lit (.int 0)) (.cons (.lit (.int 1)) (.cons (.lit (.int 2)) .nil))))) (.lit (.int 0))) (.cons (.ret (.call 29 none (.cons (.var 3) (.cons (.var 0) (.cons (.var 2) .nil))))) .nil) .nil) (.cons (.dnew 4) (.cons (.for_ (.nm 5) (.keys (.var 2)) (.cons (.dput 4 (.var 5) (.neg (.ix (.var 2) (.var 5)))) .nil)) (.cons (.asg (.nm 6) (.lend 4 (.call 29 none (.cons (.var 3) (.cons (.var 0) (.cons (.var 4) .nil)))))) (.cons (.ret (.ite (.cmp .notN (.var 6) (.lit .non)) (.prim .tuple (.cons (.lc [7, 8, 9] (.tp (.cons (.nm 7) (.cons (.nm 8) (.cons (.nm 9) .nil)))) (.items (.var 6)) (.lit (.bl true)) (.tup (.cons (.var 7) (.cons (.neg (.var 8)) (.cons (.var 9) .nil))))) .nil)) (.lit .non))) .nil))))))))
def en30 : Ent := { name := "realized", np := 2, N := ["many", "signs", "table", "corners", "opposite", "triple", "found", "x", "y", "w"], io := false, ir := ir30, params := L2.defArgs (top 49), body := L2.defBody (top 49), scope := L2.defScope (top 49) }
/-- 31 -/
def ir31 : Sm := (.cons (.par2 2 3 (.bin .sub (.bin .mul (.ix (.var 0) (.lit (.int 1))) (.ix (.var 1) (.lit (.int 2)))) (.bin .mul (.ix (.var 1) (.lit (.int 1))) (.ix (.var 0) (.lit (.int 2))))) (.bin .sub (.bin .mul (.ix (.var 1) (.lit (.int 0))) (.ix (.var 0) (.lit (.int 2)))) (.bin .mul (.ix (.var 0) (.lit (.int 0))) (.ix (.var 1) (.lit (.int 2)))))) (.cons (.ret (.tup (.cons (.var 2) (.cons (.var 3) (.cons (.bin .sub (.bin .mul (.ix (.var 1) (.lit (.int 0))) (.ix (.var 0) (.lit (.int 1)))) (.bin .mul (.ix (.var 0) (.lit (.int 0))) (.ix (.var 1) (.lit (.int 1))))) .nil))))) .nil))
def en31 : Ent := { name := "line_through", np := 2, N := ["a", "b", "u", "v"], io := false, ir := ir31, params := L2.defArgs (top 51), body := L2.defBody (top 51), scope := L2.defScope (top 51) }
/-- 32 -/
def ir32 : Sm := (.cons (.asg (.tp (.cons (.nm 4) (.cons (.nm 5) (.cons (.nm 6) .nil)))) (.call 31 none (.cons (.var 0) (.cons (.var 1) .nil)))) (.cons (.asg (.tp (.cons (.nm 7) (.cons (.nm 8) (.cons (.nm 9) .nil)))) (.call 31 none (.cons (.var 2) (.cons (.var 3) .nil)))) (.cons (.ret (.call 9 none (.cons (.bin .sub (.bin .mul (.var 6) (.var 8)) (.bin .mul (.var 9) (.var 5))) (.cons (.bin .sub (.bin .mul (.var 4) (.var 9)) (.bin .mul (.var 7) (.var 6))) (.cons (.bin .sub (.bin .mul (.var 4) (.var 8)) (.bin .mul (.var 7) (.var 5))) .nil))))) .nil)))
def en32 : Ent := { name := "lines_meet", np := 4, N := ["a", "b", "c", "d", "u", "v", "s", "x", "y", "t"], io := false, ir := ir32, params := L2.defArgs (top 52), body := L2.defBody (top 52), scope := L2.defScope (top 52) }
/-- 33 -/
def ir33 : Sm := (.cons (.ite (.cmp .ge (.bin .mul (.call 18 none (.cons (.var 0) (.cons (.var 1) (.cons (.var 2) .nil)))) (.call 18 none (.cons (.var 0) (.cons (.var 1) (.cons (.var 3) .nil))))) (.lit (.int 0))) (.cons (.ret (.lit (.bl false))) .nil) .nil) (.cons (.ret (.cmp .lt (.bin .mul (.call 18 none (.cons (.var 2) (.cons (.var 3) (.cons (.var 0) .nil)))) (.call 18 none (.cons (.var 2) (.cons (.var 3) (.cons (.var 1) .nil))))) (.lit (.int 0)))) .nil))
def en33 : Ent := { name := "is_crossing", np := 4, N := ["a", "b", "c", "d"], io := false, ir := ir33, params := L2.defArgs (top 53), body := L2.defBody (top 53), scope := L2.defScope (top 53) }
/-- 34 -/
def ir34 : Sm := (.cons (.ite (.call 33 none (.cons (.var 0) (.cons (.var 1) (.cons (.var 2) (.cons (.var 3) .nil))))) (.cons (.ret (.tup (.cons (.call 32 none (.cons (.var 0) (.cons (.var 1) (.cons (.var 2) (.cons (.var 3) .nil))))) .nil))) .nil) .nil) (.cons (.own 4 (.lst .nil)) (.cons (.for_ (.nm 5) (.items (.lst (.cons (.var 2) (.cons (.var 3) .nil)))) (.cons (.ite (.and (.call 19 none (.cons (.var 0) (.cons (.var 1) (.cons (.var 5) .nil)))) (.lend 4 (.cmp .nmem (.var 5) (.var 4)))) (.cons (.app 4 (.var 5)) .nil) .nil) .nil)) (.cons (.for_ (.nm 5) (.items (.lst (.cons (.var 0) (.cons (.var 1) .nil)))) (.cons (.ite (.and (.call 19 none (.cons (.var 2) (.cons (.var 3) (.cons (.var 5) .nil)))) (.lend 4 (.cmp .nmem (.var 5) (.var 4)))) (.cons (.app 4 (.var 5)) .nil) .nil) .nil)) (.cons (.ite (.and (.cmp .eq (.olen 4) (.lit (.int 2))) (.cmp .gt (.call 13 none (.cons (.oix 4 (.lit (.int 0))) (.cons (.oix 4 (.lit (.int 1))) .nil))) (.lit (.int 0)))) (.cons (.own 4 (.rev (.var 4))) .nil) .nil) (.cons (.ret (.prim .tuple (.cons (.var 4) .nil))) .nil))))))
def en34 : Ent := { name := "common", np := 4, N := ["a", "b", "c", "d", "found", "p"], io := false, ir := ir34, params := L2.defArgs (top 54), body := L2.defBody (top 54), scope := L2.defScope (top 54) }
/-- 35 -/
def ir35 : Sm := (.cons (.parN [1, 2] [false, true] (.cons (.call 16 none (.cons (.var 0) .nil)) (.cons (.lst .nil) .nil))) (.cons (.for_ (.nm 3) (.items (.lst (.cons (.var 1) (.cons (.rev (.var 1)) .nil)))) (.cons (.own 4 (.lst .nil)) (.cons (.for_ (.nm 5) (.items (.var 3)) (.cons (.whl (.and (.cmp .gt (.olen 4) (.lit (.int 1))) (.cmp .le (.call 18 none (.cons (.ix (.var 0) (.oix 4 (.neg (.lit (.int 2))))) (.cons (.ix (.var 0) (.oix 4 (.neg (.lit (.int 1))))) (.cons (.ix (.var 0) (.var 5)) .nil)))) (.lit (.int 0)))) (.cons (.pop 4) .nil)) (.cons (.app 4 (.var 5)) .nil))) (.cons (.app 2 (.var 4)) .nil)))) (.cons (.ret (.ite (.cmp .gt (.prim .len (.cons (.var 0) .nil)) (.lit (.int 1))) (.bin .add (.sl (.oix 2 (.lit (.int 0))) (.lit .non) (.neg (.lit (.int 1)))) (.sl (.oix 2 (.lit (.int 1))) (.lit .non) (.neg (.lit (.int 1))))) (.lst (.cons (.lit (.int 0)) .nil)))) .nil)))
def en35 : Ent := { name := "hull_indexes", np := 1, N := ["points", "row", "halves", "some", "half", "at"], io := false, ir := ir35, params := L2.defArgs (top 56), body := L2.defBody (top 56), scope := L2.defScope (top 56) }
/-- 36 -/
def ir36 : Sm := (.cons (.ite (.cmp .eq (.prim .len (.cons (.var 1) .nil)) (.lit (.int 1))) (.cons (.ret (.ite (.cmp .eq (.ix (.var 0) (.ix (.var 1) (.lit (.int 0)))) (.var 2)) (.tup (.cons (.tup (.cons (.lit (.int 1)) (.cons (.lit (.int 1)) .nil))) .nil)) (.lit .non))) .nil) .nil) (.cons (.ite (.cmp .eq (.prim .len (.cons (.var 1) .nil)) (.lit (.int 2))) (.cons (.ret (.call 37 none (.cons (.ix (.var 0) (.ix (.var 1) (.lit (.int 0)))) (.cons (.ix (.var 0) (.ix (.var 1) (.lit (.int 1)))) (.cons (.var 2) .nil))))) .nil) .nil) (.cons (.asg (.tp (.cons (.nm 3) (.cons (.nm 4) (.cons (.nm 5) .nil)))) (.lc [10] (.nm 10) (.items (.var 1)) (.lit (.bl true)) (.ix (.var 0) (.var 10)))) (.cons (.asg (.nm 6) (.call 17 none (.cons (.var 3) (.cons (.var 4) (.cons (.var 5) .nil))))) (.cons (.ite (.cmp .eq (.var 6) (.lit (.int 0))) (.cons (.ret (.lit .non)) .nil) .nil) (.cons (.own 7 (.lst .nil)) (.cons (.for_ (.tp (.cons (.nm 8) (.cons (.nm 9) .nil))) (.items (.lst (.cons (.tup (.cons (.call 17 none (.cons (.var 2) (.cons (.var 4) (.cons (.var 5) .nil)))) (.cons (.ix (.var 3) (.lit (.int 2))) .nil))) (.cons (.tup (.cons (.call 17 none (.cons (.var 3) (.cons (.var 2) (.cons (.var 5) .nil)))) (.cons (.ix (.var 4) (.lit (.int 2))) .nil))) (.cons (.tup (.cons (.call 17 none (.cons (.var 3) (.cons (.var 4) (.cons (.var 2) .nil)))) (.cons (.ix (.var 5) (.lit (.int 2))) .nil))) .nil))))) (.cons (.app 7 (.call 2 none (.cons (.bin .mul (.var 8) (.var 9)) (.cons (.bin .mul (.var 6) (.ix (.var 2) (.lit (.int 2)))) .nil)))) .nil)) (.cons (.ret (.ite (.cmp .gt (.prim .min1 (.cons (.lc [11] (.nm 11) (.items (.var 7)) (.lit (.bl true)) (.ix (.var 11) (.lit (.int 0)))) .nil)) (.lit (.int 0))) (.prim .tuple (.cons (.var 7) .nil)) (.lit .non))) .nil))))))))
def en36 : Ent := { name := "weights_in", np := 3, N := ["points", "chosen", "p", "a", "b", "c", "whole", "found", "part", "weight", "at", "one"], io := false, ir := ir36, params := L2.defArgs (top 57), body := L2.defBody (top 57), scope := L2.defScope (top 57) }
/-- 37 -/
def ir37 : Sm := (.cons (.ite (.or (.not (.call 19 none (.cons (.var 0) (.cons (.var 1) (.cons (.var 2) .nil))))) (.cmp .mem (.var 2) (.tup (.cons (.var 0) (.cons (.var 1) .nil))))) (.cons (.ret (.lit .non)) .nil) .nil) (.cons (.asg (.nm 3) (.ite (.cmp .ne (.bin .mul (.ix (.var 0) (.lit (.int 0))) (.ix (.var 1) (.lit (.int 2)))) (.bin .mul (.ix (.var 1) (.lit (.int 0))) (.ix (.var 0) (.lit (.int 2))))) (.lit (.int 0)) (.lit (.int 1)))) (.cons (.asg (.nm 4) (.bin .mul (.bin .sub (.bin .mul (.ix (.var 1) (.var 3)) (.ix (.var 0) (.lit (.int 2)))) (.bin .mul (.ix (.var 0) (.var 3)) (.ix (.var 1) (.lit (.int 2))))) (.ix (.var 2) (.lit (.int 2))))) (.cons (.asg (.nm 5) (.bin .mul (.bin .sub (.bin .mul (.ix (.var 1) (.var 3)) (.ix (.var 2) (.lit (.int 2)))) (.bin .mul (.ix (.var 2) (.var 3)) (.ix (.var 1) (.lit (.int 2))))) (.ix (.var 0) (.lit (.int 2))))) (.cons (.asg (.nm 6) (.call 2 none (.cons (.var 5) (.cons (.var 4) .nil)))) (.cons (.ret (.tup (.cons (.var 6) (.cons (.call 2 none (.cons (.bin .sub (.ix (.var 6) (.lit (.int 1))) (.ix (.var 6) (.lit (.int 0)))) (.cons (.ix (.var 6) (.lit (.int 1))) .nil))) .nil)))) .nil))))))
def en37 : Ent := { name := "along", np := 3, N := ["a", "b", "p", "at", "whole", "first", "one"], io := false, ir := ir37, params := L2.defArgs (top 58), body := L2.defBody (top 58), scope := L2.defScope (top 58) }
/-- 38 -/
def ir38 : Sm := (.cons (.asg (.nm 3) (.lc [12] (.nm 12) (.items (.var 1)) (.lit (.bl true)) (.ix (.var 0) (.var 12)))) (.cons (.ite (.cmp .eq (.prim .len (.cons (.var 3) .nil)) (.lit (.int 1))) (.cons (.par2 4 5 (.bin .sub (.bin .mul (.ix (.var 2) (.lit (.int 0))) (.ix (.ix (.var 3) (.lit (.int 0))) (.lit (.int 2)))) (.bin .mul (.ix (.ix (.var 3) (.lit (.int 0))) (.lit (.int 0))) (.ix (.var 2) (.lit (.int 2))))) (.bin .sub (.bin .mul (.ix (.var 2) (.lit (.int 1))) (.ix (.ix (.var 3) (.lit (.int 0))) (.lit (.int 2)))) (.bin .mul (.ix (.ix (.var 3) (.lit (.int 0))) (.lit (.int 1))) (.ix (.var 2) (.lit (.int 2)))))) (.cons (.ret (.call 39 none (.cons (.var 4) (.cons (.var 5) (.cons (.var 3) .nil))))) .nil)) .nil) (.cons (.for_ (.nm 6) (.rng1 (.prim .len (.cons (.var 3) .nil))) (.cons (.par2 7 8 (.ix (.var 3) (.var 6)) (.ix (.var 3) (.bin .mod (.bin .add (.var 6) (.lit (.int 1))) (.prim .len (.cons (.var 3) .nil))))) (.cons (.ite (.cmp .lt (.call 18 none (.cons (.var 7) (.cons (.var 8) (.cons (.var 2) .nil)))) (.lit (.int 0))) (.cons (.asg (.tp (.cons (.nm 9) (.cons (.nm 10) (.cons (.nm 11) .nil)))) (.call 31 none (.cons (.var 7) (.cons (.var 8) .nil)))) (.cons (.ret (.ite (.cmp .lt (.bin .add (.bin .mul (.var 9) (.ix (.var 2) (.lit (.int 0)))) (.bin .mul (.var 10) (.ix (.var 2) (.lit (.int 1))))) (.bin .mul (.var 11) (.ix (.var 2) (.lit (.int 2))))) (.call 39 none (.cons (.neg (.var 9)) (.cons (.neg (.var 10)) (.cons (.var 3) .nil)))) (.call 39 none (.cons (.var 9) (.cons (.var 10) (.cons (.var 3) .nil)))))) .nil)) .nil) .nil))) (.cons (.asg (.tp (.cons (.nm 7) (.cons (.nm 8) .nil))) (.var 3)) (.cons (.par2 4 5 (.bin .sub (.bin .mul (.ix (.var 8) (.lit (.int 0))) (.ix (.var 7) (.lit (.int 2)))) (.bin .mul (.ix (.var 7) (.lit (.int 0))) (.ix (.var 8) (.lit (.int 2))))) (.bin .sub (.bin .mul (.ix (.var 8) (.lit (.int 1))) (.ix (.var 7) (.lit (.int 2)))) (.bin .mul (.ix (.var 7) (.lit (.int 1))) (.ix (.var 8) (.lit (.int 2)))))) (.cons (.ite (.cmp .gt (.bin .mul (.bin .add (.bin .mul (.var 4) (.ix (.var 2) (.lit (.int 0)))) (.bin .mul (.var 5) (.ix (.var 2) (.lit (.int 1))))) (.ix (.var 8) (.lit (.int 2)))) (.bin .mul (.bin .add (.bin .mul (.var 4) (.ix (.var 8) (.lit (.int 0)))) (.bin .mul (.var 5) (.ix (.var 8) (.lit (.int 1))))) (.ix (.var 2) (.lit (.int 2))))) (.cons (.ret (.call 39 none (.cons (.var 4) (.cons (.var 5) (.cons (.var 3) .nil))))) .nil) .nil) (.cons (.ret (.call 39 none (.cons (.neg (.var 4)) (.cons (.neg (.var 5)) (.cons (.var 3) .nil))))) .nil)))))))
def en38 : Ent := { name := "barrier", np := 3, N := ["points", "corners", "p", "ends", "x", "y", "k", "a", "b", "u", "v", "s", "at"], io := false, ir := ir38, params := L2.defArgs (top 59), body := L2.defBody (top 59), scope := L2.defScope (top 59) }
/-- 39 -/
def ir39 : Sm := (.cons (.asg (.nm 3) (.lit (.int 1))) (.cons (.for_ (.nm 4) (.items (.var 2)) (.cons (.asg (.nm 3) (.bin .mul (.var 3) (.ix (.var 4) (.lit (.int 2))))) .nil)) (.cons (.asg (.nm 5) (.prim .max1 (.cons (.lc [4] (.nm 4) (.items (.var 2)) (.lit (.bl true)) (.bin .mul (.bin .add (.bin .mul (.var 0) (.ix (.var 4) (.lit (.int 0)))) (.bin .mul (.var 1) (.ix (.var 4) (.lit (.int 1))))) (.bin .fdiv (.var 3) (.ix (.var 4) (.lit (.int 2)))))) .nil))) (.cons (.ret (.tup (.cons (.lit (.str "out")) (.cons (.bin .mul (.var 0) (.var 3)) (.cons (.bin .mul (.var 1) (.var 3)) (.cons (.var 5) .nil)))))) .nil))))
def en39 : Ent := { name := "raised", np := 3, N := ["u", "v", "ends", "weight", "a", "best"], io := false, ir := ir39, params := L2.defArgs (top 60), body := L2.defBody (top 60), scope := L2.defScope (top 60) }
/-- 40 -/
def ir40 : Sm := (.cons (.asg (.nm 2) (.call 35 none (.cons (.var 0) .nil))) (.cons (.asg (.nm 3) (.lc [7] (.nm 7) (.items (.var 2)) (.lit (.bl true)) (.tup (.cons (.var 7) .nil)))) (.cons (.asg (.nm 3) (.bin .add (.var 3) (.lc [7] (.nm 7) (.items (.sl (.var 2) (.lit (.int 1)) (.lit .non))) (.lit (.bl true)) (.tup (.cons (.ix (.var 2) (.lit (.int 0))) (.cons (.var 7) .nil)))))) (.cons (.asg (.nm 3) (.bin .add (.var 3) (.lc [8] (.nm 8) (.rng2 (.lit (.int 1)) (.bin .sub (.prim .len (.cons (.var 2) .nil)) (.lit (.int 1)))) (.lit (.bl true)) (.tup (.cons (.ix (.var 2) (.var 8)) (.cons (.ix (.var 2) (.bin .add (.var 8) (.lit (.int 1)))) .nil)))))) (.cons (.asg (.nm 3) (.bin .add (.var 3) (.lc [8] (.nm 8) (.rng2 (.lit (.int 1)) (.bin .sub (.prim .len (.cons (.var 2) .nil)) (.lit (.int 1)))) (.lit (.bl true)) (.tup (.cons (.ix (.var 2) (.lit (.int 0))) (.cons (.ix (.var 2) (.var 8)) (.cons (.ix (.var 2) (.bin .add (.var 8) (.lit (.int 1)))) .nil))))))) (.cons (.for_ (.nm 4) (.items (.var 3)) (.cons (.asg (.nm 5) (.prim .tuple (.cons (.prim .sorted (.cons (.var 4) .nil)) .nil))) (.cons (.asg (.nm 6) (.call 36 none (.cons (.var 0) (.cons (.var 5) (.cons (.var 1) .nil))))) (.cons (.ite (.cmp .notN (.var 6) (.lit .non)) (.cons (.ret (.tup (.cons (.lit (.str "in")) (.cons (.var 5) (.cons (.var 6) .nil))))) .nil) .nil) .nil)))) (.cons (.ret (.call 38 none (.cons (.var 0) (.cons (.var 2) (.cons (.var 1) .nil))))) .nil)))))))
def en40 : Ent := { name := "locate_in", np := 2, N := ["points", "p", "corners", "fans", "fan", "chosen", "weights", "at", "k"], io := false, ir := ir40, params := L2.defArgs (top 61), body := L2.defBody (top 61), scope := L2.defScope (top 61) }
/-- 41 -/
def ir41 : Sm := (.cons (.asg (.nm 3) (.lc [5] (.nm 5) (.items (.var 1)) (.lit (.bl true)) (.ix (.var 0) (.var 5)))) (.cons (.ite (.cmp .gt (.prim .len (.cons (.var 3) .nil)) (.lit (.int 3))) (.cons (.ret (.cmp .eq (.ix (.call 40 none (.cons (.prim .tuple (.cons (.var 3) .nil)) (.cons (.var 2) .nil))) (.lit (.int 0))) (.lit (.str "in")))) .nil) .nil) (.cons (.ite (.and (.cmp .eq (.prim .len (.cons (.var 3) .nil)) (.lit (.int 3))) (.cmp .ne (.call 18 none (.cons (.ix (.var 3) (.lit (.int 0))) (.cons (.ix (.var 3) (.lit (.int 1))) (.cons (.ix (.var 3) (.lit (.int 2))) .nil)))) (.lit (.int 0)))) (.cons (.asg (.nm 4) (.lc [6] (.nm 6) (.rng1 (.lit (.int 3))) (.lit (.bl true)) (.call 18 none (.cons (.ix (.var 3) (.bin .sub (.var 6) (.lit (.int 1)))) (.cons (.ix (.var 3) (.var 6)) (.cons (.var 2) .nil)))))) (.cons (.ret (.or (.cmp .ge (.prim .min1 (.cons (.var 4) .nil)) (.lit (.int 0))) (.cmp .le (.prim .max1 (.cons (.var 4) .nil)) (.lit (.int 0))))) .nil)) .nil) (.cons (.ret (.cmp .ne (.lc [6] (.nm 6) (.rng1 (.prim .len (.cons (.var 3) .nil))) (.call 19 none (.cons (.ix (.var 3) (.bin .sub (.var 6) (.lit (.int 1)))) (.cons (.ix (.var 3) (.var 6)) (.cons (.var 2) .nil)))) (.var 6)) (.lst .nil))) .nil))))
def en41 : Ent := { name := "is_in_hull", np := 3, N := ["points", "chosen", "p", "some", "sides", "at", "k"], io := false, ir := ir41, params := L2.defArgs (top 64), body := L2.defBody (top 64), scope := L2.defScope (top 64) }
/-- 42 -/
def ir42 : Sm := (.cons (.asg (.nm 2) (.lc2 [3, 9] (.nm 9) (.items (.var 1)) (.lit (.bl true)) [3] (.nm 3) (.items (.var 9)) (.lit (.bl true)) (.ix (.var 0) (.var 3)))) (.cons (.for_ (.nm 3) (.rng1 (.prim .len (.cons (.var 1) .nil))) (.cons (.for_ (.nm 4) (.items (.sl (.var 1) (.lit .non) (.var 3))) (.cons (.for_ (.nm 5) (.rng1 (.prim .len (.cons (.ix (.var 1) (.var 3)) .nil))) (.cons (.for_ (.nm 6) (.rng1 (.prim .len (.cons (.var 4) .nil))) (.cons (.par2 7 8 (.ix (.var 0) (.ix (.ix (.var 1) (.var 3)) (.bin .sub (.var 5) (.lit (.int 1))))) (.ix (.var 0) (.ix (.ix (.var 1) (.var 3)) (.var 5)))) (.cons (.asg (.nm 2) (.bin .add (.var 2) (.prim .list (.cons (.call 34 none (.cons (.var 7) (.cons (.var 8) (.cons (.ix (.var 0) (.ix (.var 4) (.bin .sub (.var 6) (.lit (.int 1))))) (.cons (.ix (.var 0) (.ix (.var 4) (.var 6))) .nil))))) .nil)))) .nil))) .nil)) .nil)) .nil)) (.cons (.ret (.var 2)) .nil)))
def en42 : Ent := { name := "meets_of", np := 2, N := ["points", "parts", "found", "at", "other", "i", "j", "a", "b", "part"], io := false, ir := ir42, params := L2.defArgs (top 65), body := L2.defBody (top 65), scope := L2.defScope (top 65) }
/-- 43 -/
def ir43 : Sm := (.cons (.asg (.nm 2) (.lst (.cons (.lst .nil) .nil))) (.cons (.for_ (.nm 3) (.items (.var 0)) (.cons (.own 4 (.lst .nil)) (.cons (.for_ (.nm 5) (.items (.var 2)) (.cons (.own 4 (.bin .add (.var 4) (.lc [6] (.nm 6) (.rng1 (.prim .len (.cons (.var 5) .nil))) (.lit (.bl true)) (.bin .add (.bin .add (.sl (.var 5) (.lit .non) (.var 6)) (.lst (.cons (.bin .add (.ix (.var 5) (.var 6)) (.tup (.cons (.var 3) .nil))) .nil))) (.sl (.var 5) (.bin .add (.var 6) (.lit (.int 1))) (.lit .non)))))) (.cons (.ite (.cmp .lt (.prim .len (.cons (.var 5) .nil)) (.var 1)) (.cons (.app 4 (.bin .add (.var 5) (.lst (.cons (.tup (.cons (.var 3) .nil)) .nil)))) .nil) .nil) .nil))) (.cons (.asg (.nm 2) (.var 4)) .nil)))) (.cons (.ret (.lc [5] (.nm 5) (.items (.var 2)) (.cmp .eq (.prim .len (.cons (.var 5) .nil)) (.var 1)) (.var 5))) .nil)))
def en43 : Ent := { name := "parted", np := 2, N := ["labels", "many", "found", "label", "longer", "parts", "at"], io := false, ir := ir43, params := L2.defArgs (top 66), body := L2.defBody (top 66), scope := L2.defScope (top 66) }
/-- 44 -/
def ir44 : Sm := (.cons (.for_ (.nm 3) (.items (.call 43 none (.cons (.var 1) (.cons (.var 2) .nil)))) (.cons (.ite (.cmp .le (.prim .max1 (.cons (.lc [5] (.nm 5) (.items (.var 3)) (.lit (.bl true)) (.prim .len (.cons (.var 5) .nil))) .nil)) (.lit (.int 3))) (.cons (.for_ (.nm 4) (.items (.call 42 none (.cons (.var 0) (.cons (.var 3) .nil)))) (.cons (.ite (.cmp .eq (.lc [5] (.nm 5) (.items (.var 3)) (.not (.call 41 none (.cons (.var 0) (.cons (.var 5) (.cons (.var 4) .nil))))) (.var 5)) (.lst .nil)) (.cons (.ret (.tup (.cons (.var 3) (.cons (.var 4) .nil)))) .nil) .nil) .nil)) .nil) .nil) .nil)) (.cons (.ret (.tup (.cons (.lit .non) (.cons (.lit .non) .nil)))) .nil))
def en44 : Ent := { name := "common_part", np := 3, N := ["points", "labels", "many", "parts", "p", "part"], io := false, ir := ir44, params := L2.defArgs (top 67), body := L2.defBody (top 67), scope := L2.defScope (top 67) }
/-- 45 -/
def ir45 : Sm := (.cons (.asg (.tp (.cons (.nm 3) (.cons (.nm 4) .nil))) (.call 44 none (.cons (.var 0) (.cons (.frm .lrng (.var 1)) (.cons (.var 2) .nil))))) (.cons (.asg (.nm 5) (.trng2 (.var 1) (.prim .len (.cons (.var 0) .nil)))) (.cons (.asg (.nm 3) (.bin .add (.lst (.cons (.bin .add (.ix (.var 3) (.lit (.int 0))) (.var 5)) .nil)) (.sl (.var 3) (.lit (.int 1)) (.lit .non)))) (.cons (.ret (.tup (.cons (.prim .tuple (.cons (.lc [6] (.nm 6) (.items (.var 3)) (.lit (.bl true)) (.prim .tuple (.cons (.prim .sorted (.cons (.var 6) .nil)) .nil))) .nil)) (.cons (.var 4) .nil)))) .nil))))
def en45 : Ent := { name := "with_rest", np := 3, N := ["points", "few", "many", "parts", "p", "rest", "part"], io := false, ir := ir45, params := L2.defArgs (top 68), body := L2.defBody (top 68), scope := L2.defScope (top 68) }
/-- 46 -/
def ir46 : Sm := (.cons (.exp (.call 12 none (.cons (.var 0) .nil))) (.cons (.ite (.cmp .lt (.prim .len (.cons (.var 0) .nil)) (.lit (.int 4))) (.cons .never .nil) .nil) (.cons (.ret (.call 45 none (.cons (.var 0) (.cons (.lit (.int 4)) (.cons (.lit (.int 2)) .nil))))) .nil)))
def en46 : Ent := { name := "radon", np := 1, N := ["points"], io := false, ir := ir46, params := L2.defArgs (top 69), body := L2.defBody (top 69), scope := L2.defScope (top 69) }
/-- 47 -/
def ir47 : Sm := (.cons (.ite (.or (.not (.isi .isTup (.var 0))) (.cmp .ne (.prim .len (.cons (.var 0) .nil)) (.lit (.int 3)))) (.cons (.ret (.lit (.bl false))) .nil) .nil) (.cons (.ite (.or (.cmp .ne (.lc [1] (.nm 1) (.items (.var 0)) (.or (.not (.isi .isInt (.var 1))) (.isi .isBool (.var 1))) (.var 1)) (.lst .nil)) (.cmp .lt (.ix (.var 0) (.lit (.int 2))) (.lit (.int 1)))) (.cons (.ret (.lit (.bl false))) .nil) .nil) (.cons (.ret (.cmp .eq (.call 1 none (.cons (.call 1 none (.cons (.ix (.var 0) (.lit (.int 0))) (.cons (.ix (.var 0) (.lit (.int 1))) .nil))) (.cons (.ix (.var 0) (.lit (.int 2))) .nil))) (.lit (.int 1)))) .nil)))
def en47 : Ent := { name := "is_any_point", np := 1, N := ["value", "x"], io := false, ir := ir47, params := L2.defArgs (top 70), body := L2.defBody (top 70), scope := L2.defScope (top 70) }
/-- 48 -/
def ir48 : Sm := (.cons (.exp (.call 12 none (.cons (.var 0) .nil))) (.cons (.ite (.or (.not (.isi .isTup (.var 1))) (.cmp .ne (.prim .len (.cons (.var 1) .nil)) (.lit (.int 2)))) (.cons (.ret (.lit (.bl false))) .nil) .nil) (.cons (.ite (.or (.not (.isi .isTup (.ix (.var 1) (.lit (.int 0))))) (.not (.call 47 none (.cons (.ix (.var 1) (.lit (.int 1))) .nil)))) (.cons (.ret (.lit (.bl false))) .nil) .nil) (.cons (.asg (.nm 2) (.lst .nil)) (.cons (.for_ (.nm 3) (.items (.ix (.var 1) (.lit (.int 0)))) (.cons (.ite (.or (.not (.isi .isTup (.var 3))) (.cmp .eq (.var 3) (.tup .nil))) (.cons (.ret (.lit (.bl false))) .nil) .nil) (.cons (.ite (.or (.cmp .ne (.lc [4] (.nm 4) (.items (.var 3)) (.not (.call 0 none (.cons (.var 4) (.cons (.lit (.int 0)) (.cons (.bin .sub (.prim .len (.cons (.var 0) .nil)) (.lit (.int 1))) .nil))))) (.var 4)) (.lst .nil)) (.cmp .ne (.prim .list (.cons (.var 3) .nil)) (.frm .sset (.var 3)))) (.cons (.ret (.lit (.bl false))) .nil) .nil) (.cons (.asg (.nm 2) (.bin .add (.var 2) (.prim .list (.cons (.var 3) .nil)))) .nil)))) (.cons (.ite (.cmp .ne (.prim .sorted (.cons (.var 2) .nil)) (.frm .lrng (.prim .len (.cons (.var 0) .nil)))) (.cons (.ret (.lit (.bl false))) .nil) .nil) (.cons (.ret (.cmp .eq (.lc [3] (.nm 3) (.items (.ix (.var 1) (.lit (.int 0)))) (.not (.call 41 none (.cons (.var 0) (.cons (.var 3) (.cons (.ix (.var 1) (.lit (.int 1))) .nil))))) (.var 3)) (.lst .nil))) .nil)))))))
def en48 : Ent := { name := "shows_common", np := 2, N := ["points", "value", "seen", "part", "at"], io := false, ir := ir48, params := L2.defArgs (top 71), body := L2.defBody (top 71), scope := L2.defScope (top 71) }
/-- 49 -/
def ir49 : Sm := (.cons (.ite (.cmp .gt (.prim .len (.cons (.var 0) .nil)) (.gval 3)) (.cons .never .nil) .nil) .nil)
def en49 : Ent := { name := "need_few", np := 1, N := ["points"], io := false, ir := ir49, params := L2.defArgs (top 72), body := L2.defBody (top 72), scope := L2.defScope (top 72) }
/-- 50 -/
def ir50 : Sm := (.cons (.asg (.nm 2) (.lc [11] (.nm 11) (.items (.var 0)) (.lit (.bl true)) (.tup (.cons (.bin .sub (.bin .mul (.ix (.var 11) (.lit (.int 0))) (.ix (.var 1) (.lit (.int 2)))) (.bin .mul (.ix (.var 1) (.lit (.int 0))) (.ix (.var 11) (.lit (.int 2))))) (.cons (.bin .sub (.bin .mul (.ix (.var 11) (.lit (.int 1))) (.ix (.var 1) (.lit (.int 2)))) (.bin .mul (.ix (.var 1) (.lit (.int 1))) (.ix (.var 11) (.lit (.int 2))))) .nil))))) (.cons (.asg (.nm 3) (.tup (.cons (.prim .len (.cons (.var 0) .nil)) (.cons (.tup (.cons (.lit (.int 1)) (.cons (.lit (.int 0)) .nil))) .nil)))) (.cons (.for_ (.tp (.cons (.nm 4) (.cons (.nm 5) .nil))) (.items (.bin .add (.var 2) (.lst (.cons (.tup (.cons (.lit (.int 1)) (.cons (.lit (.int 0)) .nil))) .nil)))) (.cons (.ite (.cmp .ne (.tup (.cons (.var 4) (.cons (.var 5) .nil))) (.tup (.cons (.lit (.int 0)) (.cons (.lit (.int 0)) .nil)))) (.cons (.for_ (.tp (.cons (.nm 6) (.cons (.nm 7) .nil))) (.items (.lst (.cons (.tup (.cons (.neg (.var 5)) (.cons (.var 4) .nil))) (.cons (.tup (.cons (.var 5) (.cons (.neg (.var 4)) .nil))) .nil)))) (.cons (.for_ (.nm 8) (.items (.tup (.cons (.lit (.int 1)) (.cons (.neg (.lit (.int 1))) .nil)))) (.cons (.asg (.nm 9) (.lc [12, 13] (.tp (.cons (.nm 12) (.cons (.nm 13) .nil))) (.items (.var 2)) (.lit (.bl true)) (.or (.call 8 none (.cons (.bin .add (.bin .mul (.var 6) (.var 12)) (.bin .mul (.var 7) (.var 13))) .nil)) (.bin .mul (.var 8) (.call 8 none (.cons (.bin .add (.bin .mul (.var 4) (.var 12)) (.bin .mul (.var 5) (.var 13))) .nil)))))) (.cons (.asg (.nm 10) (.prim .len (.cons (.lc [14] (.nm 14) (.items (.var 9)) (.cmp .ge (.var 14) (.lit (.int 0))) (.var 14)) .nil))) (.cons (.ite (.cmp .lt (.var 10) (.ix (.var 3) (.lit (.int 0)))) (.cons (.asg (.nm 3) (.tup (.cons (.var 10) (.cons (.call 51 none (.cons (.var 2) (.cons (.tup (.cons (.var 6) (.cons (.var 7) .nil))) (.cons (.tup (.cons (.bin .mul (.var 8) (.var 4)) (.cons (.bin .mul (.var 8) (.var 5)) .nil))) .nil)))) .nil)))) .nil) .nil) .nil)))) .nil)) .nil) .nil) .nil)) (.cons (.ret (.var 3)) .nil))))
def en50 : Ent := { name := "depth_of", np := 2, N := ["points", "p", "ways", "best", "x", "y", "u", "v", "side", "at", "many", "q", "a", "b", "one"], io := false, ir := ir50, params := L2.defArgs (top 73), body := L2.defBody (top 73), scope := L2.defScope (top 73) }
/-- 51 -/
def ir51 : Sm := (.cons (.asg (.nm 3) (.lit (.int 1))) (.cons (.for_ (.tp (.cons (.nm 4) (.cons (.nm 5) .nil))) (.items (.var 0)) (.cons (.asg (.nm 3) (.prim2 .max2 (.var 3) (.bin .add (.lit (.int 1)) (.prim .abs (.cons (.bin .add (.bin .mul (.ix (.var 2) (.lit (.int 0))) (.var 4)) (.bin .mul (.ix (.var 2) (.lit (.int 1))) (.var 5))) .nil))))) .nil)) (.cons (.ret (.tup (.cons (.bin .add (.bin .mul (.ix (.var 1) (.lit (.int 0))) (.var 3)) (.ix (.var 2) (.lit (.int 0)))) (.cons (.bin .add (.bin .mul (.ix (.var 1) (.lit (.int 1))) (.var 3)) (.ix (.var 2) (.lit (.int 1)))) .nil)))) .nil)))
def en51 : Ent := { name := "tilted", np := 3, N := ["ways", "first", "second", "scale", "a", "b"], io := false, ir := ir51, params := L2.defArgs (top 74), body := L2.defBody (top 74), scope := L2.defScope (top 74) }
/-- 52 -/
def ir52 : Sm := (.cons (.exp (.call 12 none (.cons (.var 0) .nil))) (.cons (.exp (.call 11 none (.cons (.var 1) .nil))) (.cons (.exp (.call 49 none (.cons (.var 0) .nil))) (.cons (.ret (.call 50 none (.cons (.var 0) (.cons (.var 1) .nil)))) .nil))))
def en52 : Ent := { name := "depth", np := 2, N := ["points", "p"], io := false, ir := ir52, params := L2.defArgs (top 75), body := L2.defBody (top 75), scope := L2.defScope (top 75) }
/-- 53 -/
def ir53 : Sm := (.cons (.ite (.or (.not (.isi .isTup (.var 0))) (.cmp .ne (.prim .len (.cons (.var 0) .nil)) (.lit (.int 2)))) (.cons (.ret (.lit (.bl false))) .nil) .nil) (.cons (.ret (.and (.call 7 none (.cons (.ix (.var 0) (.lit (.int 0))) .nil)) (.call 7 none (.cons (.ix (.var 0) (.lit (.int 1))) .nil)))) .nil))
def en53 : Ent := { name := "is_line", np := 1, N := ["value"], io := false, ir := ir53, params := L2.defArgs (top 78), body := L2.defBody (top 78), scope := L2.defScope (top 78) }
/-- 54 -/
def ir54 : Sm := (.cons (.ite (.not (.call 53 none (.cons (.var 0) .nil))) (.cons .never .nil) .nil) .nil)
def en54 : Ent := { name := "need_line", np := 1, N := ["value"], io := false, ir := ir54, params := L2.defArgs (top 79), body := L2.defBody (top 79), scope := L2.defScope (top 79) }
/-- 55 -/
def ir55 : Sm := (.cons (.asg (.nm 2) (.call 3 none (.cons (.call 5 none (.cons (.ix (.var 0) (.lit (.int 0))) (.cons (.call 2 none (.cons (.ix (.var 1) (.lit (.int 0))) (.cons (.ix (.var 1) (.lit (.int 2))) .nil))) .nil))) (.cons (.ix (.var 0) (.lit (.int 1))) .nil)))) (.cons (.ret (.call 4 none (.cons (.call 2 none (.cons (.ix (.var 1) (.lit (.int 1))) (.cons (.ix (.var 1) (.lit (.int 2))) .nil))) (.cons (.var 2) .nil)))) .nil))
def en55 : Ent := { name := "height", np := 2, N := ["line", "p", "on"], io := false, ir := ir55, params := L2.defArgs (top 80), body := L2.defBody (top 80), scope := L2.defScope (top 80) }
/-- 56 -/
def ir56 : Sm := (.cons (.exp (.call 54 none (.cons (.var 0) .nil))) (.cons (.exp (.call 11 none (.cons (.var 1) .nil))) (.cons (.ret (.call 8 none (.cons (.ix (.call 55 none (.cons (.var 0) (.cons (.var 1) .nil))) (.lit (.int 0))) .nil))) .nil)))
def en56 : Ent := { name := "above", np := 2, N := ["line", "p"], io := false, ir := ir56, params := L2.defArgs (top 81), body := L2.defBody (top 81), scope := L2.defScope (top 81) }
/-- 57 -/
def ir57 : Sm := (.cons (.exp (.call 11 none (.cons (.var 0) .nil))) (.cons (.ret (.tup (.cons (.call 2 none (.cons (.ix (.var 0) (.lit (.int 0))) (.cons (.ix (.var 0) (.lit (.int 2))) .nil))) (.cons (.call 2 none (.cons (.neg (.ix (.var 0) (.lit (.int 1)))) (.cons (.ix (.var 0) (.lit (.int 2))) .nil))) .nil)))) .nil))
def en57 : Ent := { name := "dual_of_point", np := 1, N := ["p"], io := false, ir := ir57, params := L2.defArgs (top 82), body := L2.defBody (top 82), scope := L2.defScope (top 82) }
/-- 58 -/
def ir58 : Sm := (.cons (.exp (.call 54 none (.cons (.var 0) .nil))) (.cons (.asg (.tp (.cons (.tp (.cons (.nm 1) (.cons (.nm 2) .nil))) (.cons (.tp (.cons (.nm 3) (.cons (.nm 4) .nil))) .nil))) (.var 0)) (.cons (.ret (.call 9 none (.cons (.bin .mul (.var 1) (.var 4)) (.cons (.bin .mul (.neg (.var 3)) (.var 2)) (.cons (.bin .mul (.var 2) (.var 4)) .nil))))) .nil)))
def en58 : Ent := { name := "dual_of_line", np := 1, N := ["line", "m", "below", "k", "under"], io := false, ir := ir58, params := L2.defArgs (top 83), body := L2.defBody (top 83), scope := L2.defScope (top 83) }
/-- 59 -/
def ir59 : Sm := (.cons (.ite (.or (.not (.isi .isTup (.var 0))) (.not (.cmp2 .le .le (.lit (.int 1)) (.prim .len (.cons (.var 0) .nil)) (.gval 4)))) (.cons .never .nil) .nil) (.cons (.for_ (.nm 1) (.rng1 (.prim .len (.cons (.var 0) .nil))) (.cons (.ite (.or (.not (.call 53 none (.cons (.ix (.var 0) (.var 1)) .nil))) (.cmp .mem (.ix (.ix (.var 0) (.var 1)) (.lit (.int 0))) (.lc [2] (.nm 2) (.items (.sl (.var 0) (.lit .non) (.var 1))) (.lit (.bl true)) (.ix (.var 2) (.lit (.int 0)))))) (.cons .never .nil) .nil) .nil)) .nil))
def en59 : Ent := { name := "need_lines", np := 1, N := ["value", "at", "line"], io := false, ir := ir59, params := L2.defArgs (top 84), body := L2.defBody (top 84), scope := L2.defScope (top 84) }
/-- 60 -/
def ir60 : Sm := (.cons (.asg (.nm 2) (.call 6 none (.cons (.call 4 none (.cons (.ix (.var 1) (.lit (.int 1))) (.cons (.ix (.var 0) (.lit (.int 1))) .nil))) (.cons (.call 4 none (.cons (.ix (.var 0) (.lit (.int 0))) (.cons (.ix (.var 1) (.lit (.int 0))) .nil))) .nil)))) (.cons (.asg (.nm 3) (.call 3 none (.cons (.call 5 none (.cons (.ix (.var 0) (.lit (.int 0))) (.cons (.var 2) .nil))) (.cons (.ix (.var 0) (.lit (.int 1))) .nil)))) (.cons (.ret (.call 9 none (.cons (.bin .mul (.ix (.var 2) (.lit (.int 0))) (.ix (.var 3) (.lit (.int 1)))) (.cons (.bin .mul (.ix (.var 3) (.lit (.int 0))) (.ix (.var 2) (.lit (.int 1)))) (.cons (.bin .mul (.ix (.var 2) (.lit (.int 1))) (.ix (.var 3) (.lit (.int 1)))) .nil))))) .nil)))
def en60 : Ent := { name := "corner_of", np := 2, N := ["one", "other", "x", "y"], io := false, ir := ir60, params := L2.defArgs (top 85), body := L2.defBody (top 85), scope := L2.defScope (top 85) }
/-- 61 -/
def ir61 : Sm := (.cons (.exp (.call 59 none (.cons (.var 0) .nil))) (.cons (.ite (.not (.call 0 none (.cons (.var 1) (.cons (.lit (.int 0)) (.cons (.gval 4) .nil))))) (.cons .never .nil) .nil) (.cons (.own 2 (.lst .nil)) (.cons (.for_ (.nm 3) (.rng1 (.prim .len (.cons (.var 0) .nil))) (.cons (.for_ (.nm 4) (.rng1 (.var 3)) (.cons (.asg (.nm 5) (.call 60 none (.cons (.ix (.var 0) (.var 3)) (.cons (.ix (.var 0) (.var 4)) .nil)))) (.cons (.ite (.and (.lend 2 (.cmp .nmem (.var 5) (.var 2))) (.cmp .eq (.prim .len (.cons (.lc [8] (.nm 8) (.items (.var 0)) (.cmp .gt (.ix (.call 55 none (.cons (.var 8) (.cons (.var 5) .nil))) (.lit (.int 0))) (.lit (.int 0))) (.var 8)) .nil)) (.var 1))) (.cons (.app 2 (.var 5)) .nil) .nil) .nil))) .nil)) (.cons (.asg (.tp (.cons (.nm 6) (.cons (.nm 7) .nil))) (.call 15 none (.cons (.var 2) .nil))) (.cons (.ret (.prim .tuple (.cons (.lc [9] (.nm 9) (.items (.rank 6 (.prim .len (.cons (.var 2) .nil)))) (.lit (.bl true)) (.ix (.var 2) (.var 9))) .nil))) .nil))))))
def en61 : Ent := { name := "level_corners", np := 2, N := ["lines", "k", "found", "i", "j", "p", "pairs", "weight", "line", "at"], io := false, ir := ir61, params := L2.defArgs (top 86), body := L2.defBody (top 86), scope := L2.defScope (top 86), lam := true }
/-- 62 -/
def ir62 : Sm := (.cons (.exp (.call 12 none (.cons (.var 0) .nil))) (.cons (.for_ (.nm 1) (.rng1 (.prim .len (.cons (.var 0) .nil))) (.cons (.for_ (.nm 2) (.rng1 (.var 1)) (.cons (.for_ (.nm 3) (.rng1 (.var 2)) (.cons (.ite (.cmp .eq (.call 18 none (.cons (.ix (.var 0) (.var 1)) (.cons (.ix (.var 0) (.var 2)) (.cons (.ix (.var 0) (.var 3)) .nil)))) (.lit (.int 0))) (.cons .never .nil) .nil) .nil)) .nil)) .nil)) .nil))
def en62 : Ent := { name := "need_general", np := 1, N := ["points", "a", "b", "c"], io := false, ir := ir62, params := L2.defArgs (top 88), body := L2.defBody (top 88), scope := L2.defScope (top 88) }
/-- 63 -/
def ir63 : Sm := (.cons (.ret (.lc [3] (.nm 3) (.rng1 (.prim .len (.cons (.var 0) .nil))) (.cmp .gt (.call 18 none (.cons (.var 1) (.cons (.var 2) (.cons (.ix (.var 0) (.var 3)) .nil)))) (.lit (.int 0))) (.var 3))) .nil)
def en63 : Ent := { name := "lefts", np := 3, N := ["points", "a", "b", "k"], io := false, ir := ir63, params := L2.defArgs (top 89), body := L2.defBody (top 89), scope := L2.defScope (top 89) }
/-- 64 -/
def ir64 : Sm := (.cons (.exp (.call 62 none (.cons (.var 0) .nil))) (.cons (.asg (.nm 1) (.prim .len (.cons (.var 0) .nil))) (.cons (.ite (.cmp .lt (.var 1) (.lit (.int 2))) (.cons .never .nil) .nil) (.cons (.own 2 (.bin .mul (.lst (.cons (.lit (.int 0)) .nil)) (.bin .sub (.var 1) (.lit (.int 1))))) (.cons (.for_ (.nm 3) (.items (.var 0)) (.cons (.for_ (.nm 4) (.items (.var 0)) (.cons (.ite (.cmp .ne (.var 3) (.var 4)) (.cons (.augix 2 (.prim .len (.cons (.call 63 none (.cons (.var 0) (.cons (.var 3) (.cons (.var 4) .nil)))) .nil)) .add (.lit (.int 1))) .nil) .nil) .nil)) .nil)) (.cons (.ret (.prim .tuple (.cons (.var 2) .nil))) .nil))))))
def en64 : Ent := { name := "left_counts", np := 1, N := ["points", "many", "found", "a", "b"], io := false, ir := ir64, params := L2.defArgs (top 90), body := L2.defBody (top 90), scope := L2.defScope (top 90) }
/-- 65 -/
def ir65 : Sm := (.cons (.exp (.call 62 none (.cons (.var 0) .nil))) (.cons (.par2 1 2 (.lit (.int 0)) (.prim .len (.cons (.var 0) .nil))) (.cons (.asg (.nm 3) (.lc2 [5, 6] (.nm 6) (.rng1 (.var 2)) (.lit (.bl true)) [5] (.nm 5) (.rng1 (.var 6)) (.lit (.bl true)) (.tup (.cons (.var 5) (.cons (.var 6) .nil))))) (.cons (.for_ (.nm 4) (.rng1 (.prim .len (.cons (.var 3) .nil))) (.cons (.for_ (.tp (.cons (.nm 5) (.cons (.nm 6) .nil))) (.items (.sl (.var 3) (.lit .non) (.var 4))) (.cons (.asg (.tp (.cons (.nm 7) (.cons (.nm 8) .nil))) (.ix (.var 3) (.var 4))) (.cons (.ite (.call 33 none (.cons (.ix (.var 0) (.var 5)) (.cons (.ix (.var 0) (.var 6)) (.cons (.ix (.var 0) (.var 7)) (.cons (.ix (.var 0) (.var 8)) .nil))))) (.cons (.aug 1 .add (.lit (.int 1))) .nil) .nil) .nil))) .nil)) (.cons (.ret (.var 1)) .nil)))))
def en65 : Ent := { name := "crossing_count", np := 1, N := ["points", "found", "many", "pairs", "at", "i", "j", "a", "b"], io := false, ir := ir65, params := L2.defArgs (top 91), body := L2.defBody (top 91), scope := L2.defScope (top 91) }
/-- 66 -/
def ir66 : Sm := (.cons (.exp (.call 62 none (.cons (.var 0) .nil))) (.cons (.parN [1, 2] [false, true] (.cons (.prim .len (.cons (.var 0) .nil)) (.cons (.lst .nil) .nil))) (.cons (.for_ (.nm 3) (.rng1 (.var 1)) (.cons (.for_ (.nm 4) (.rng2 (.bin .add (.var 3) (.lit (.int 1))) (.var 1)) (.cons (.ite (.cmp .eq (.bin .mul (.lit (.int 2)) (.prim .len (.cons (.call 63 none (.cons (.var 0) (.cons (.ix (.var 0) (.var 3)) (.cons (.ix (.var 0) (.var 4)) .nil)))) .nil))) (.bin .sub (.var 1) (.lit (.int 2)))) (.cons (.app 2 (.tup (.cons (.var 3) (.cons (.var 4) .nil)))) .nil) .nil) .nil)) .nil)) (.cons (.ret (.prim .tuple (.cons (.var 2) .nil))) .nil))))
def en66 : Ent := { name := "halving_pairs", np := 1, N := ["points", "many", "found", "i", "j"], io := false, ir := ir66, params := L2.defArgs (top 92), body := L2.defBody (top 92), scope := L2.defScope (top 92) }
/-- 67 -/
def ir67 : Sm := (.cons (.exp (.call 62 none (.cons (.var 0) .nil))) (.cons (.asg (.nm 2) (.prim .len (.cons (.var 0) .nil))) (.cons (.ite (.not (.call 0 none (.cons (.var 1) (.cons (.lit (.int 0)) (.cons (.var 2) .nil))))) (.cons .never .nil) .nil) (.cons (.ite (.cmp .mem (.var 1) (.tup (.cons (.lit (.int 0)) (.cons (.var 2) .nil)))) (.cons (.ret (.tup (.cons (.frm .trng (.var 1)) .nil))) .nil) .nil) (.cons (.dnew 3) (.cons (.for_ (.nm 4) (.rng1 (.var 2)) (.cons (.for_ (.nm 5) (.rng1 (.var 2)) (.cons (.ite (.cmp .ne (.var 4) (.var 5)) (.cons (.asg (.nm 6) (.call 63 none (.cons (.var 0) (.cons (.ix (.var 0) (.var 4)) (.cons (.ix (.var 0) (.var 5)) .nil))))) (.cons (.for_ (.nm 7) (.items (.lst (.cons (.lst .nil) (.cons (.lst (.cons (.var 4) .nil)) (.cons (.lst (.cons (.var 5) .nil)) (.cons (.lst (.cons (.var 4) (.cons (.var 5) .nil))) .nil)))))) (.cons (.ite (.cmp .eq (.bin .add (.prim .len (.cons (.var 6) .nil)) (.prim .len (.cons (.var 7) .nil))) (.var 1)) (.cons (.dput 3 (.prim .tuple (.cons (.prim .sorted (.cons (.bin .add (.var 6) (.var 7)) .nil)) .nil)) (.lit (.bl true))) .nil) .nil) .nil)) .nil)) .nil) .nil)) .nil)) (.cons (.ret (.prim .tuple (.cons (.skeys (.var 3)) .nil))) .nil)))))))
def en67 : Ent := { name := "separable", np := 2, N := ["points", "k", "many", "found", "i", "j", "some", "more"], io := false, ir := ir67, params := L2.defArgs (top 93), body := L2.defBody (top 93), scope := L2.defScope (top 93) }
/-- 68 -/
def ir68 : Sm := (.cons (.asg (.nm 3) (.lc [4] (.nm 4) (.items (.var 0)) (.cmp .nmem (.var 4) (.tup (.cons (.var 1) (.cons (.var 2) .nil)))) (.var 4))) (.cons (.ret (.cmp .eq (.bin .mul (.lit (.int 2)) (.prim .len (.cons (.call 63 none (.cons (.var 3) (.cons (.var 1) (.cons (.var 2) .nil)))) .nil))) (.prim .len (.cons (.var 3) .nil)))) .nil))
def en68 : Ent := { name := "is_halved", np := 3, N := ["points", "a", "b", "others", "p"], io := false, ir := ir68, params := L2.defArgs (top 94), body := L2.defBody (top 94), scope := L2.defScope (top 94) }
/-- 69 -/
def ir69 : Sm := (.cons (.exp (.call 12 none (.cons (.var 0) .nil))) (.cons (.exp (.call 12 none (.cons (.var 1) .nil))) (.cons (.ite (.or (.cmp .eq (.bin .mod (.prim .len (.cons (.var 0) .nil)) (.lit (.int 2))) (.lit (.int 0))) (.or (.cmp .eq (.bin .mod (.prim .len (.cons (.var 1) .nil)) (.lit (.int 2))) (.lit (.int 0))) (.cmp .ne (.lc [8] (.nm 8) (.items (.var 0)) (.cmp .mem (.var 8) (.var 1)) (.var 8)) (.lst .nil)))) (.cons .never .nil) .nil) (.cons (.asg (.nm 2) (.bin .add (.var 0) (.var 1))) (.cons (.for_ (.nm 3) (.rng1 (.prim .len (.cons (.var 2) .nil))) (.cons (.for_ (.nm 4) (.rng1 (.var 3)) (.cons (.for_ (.nm 5) (.rng1 (.var 4)) (.cons (.ite (.cmp .eq (.call 18 none (.cons (.ix (.var 2) (.var 3)) (.cons (.ix (.var 2) (.var 4)) (.cons (.ix (.var 2) (.var 5)) .nil)))) (.lit (.int 0))) (.cons .never .nil) .nil) .nil)) .nil)) .nil)) (.cons (.for_ (.nm 6) (.rng1 (.prim .len (.cons (.var 0) .nil))) (.cons (.for_ (.nm 7) (.rng1 (.prim .len (.cons (.var 1) .nil))) (.cons (.ite (.and (.call 68 none (.cons (.var 0) (.cons (.ix (.var 0) (.var 6)) (.cons (.ix (.var 1) (.var 7)) .nil)))) (.call 68 none (.cons (.var 1) (.cons (.ix (.var 0) (.var 6)) (.cons (.ix (.var 1) (.var 7)) .nil))))) (.cons (.ret (.tup (.cons (.var 6) (.cons (.var 7) .nil)))) .nil) .nil) .nil)) .nil)) (.cons (.ret (.lit .non)) .nil)))))))
def en69 : Ent := { name := "halving_both", np := 2, N := ["red", "blue", "every", "a", "b", "c", "i", "j", "p"], io := false, ir := ir69, params := L2.defArgs (top 95), body := L2.defBody (top 95), scope := L2.defScope (top 95) }
/-- 70 -/
def ir70 : Sm := (.cons (.ite (.cmp .gt (.oix 0 (.lit (.int 3))) (.lit (.int 0))) (.cons (.asg (.nm 2) (.bin .mod (.prim .int (.cons (.oix 0 (.lit (.int 3))) .nil)) (.var 1))) (.cons (.setix 0 (.lit (.int 3)) (.bin .fdiv (.oix 0 (.lit (.int 3))) (.var 1))) (.cons (.ret (.var 2)) .nil))) .nil) (.cons (.setix 0 (.lit (.int 1)) (.bin .add (.oix 0 (.lit (.int 1))) (.lit (.int 1)))) (.cons (.ite (.cmp .gt (.oix 0 (.lit (.int 1))) (.prim .len (.cons (.oix 0 (.lit (.int 0))) .nil))) (.cons (.setix 0 (.lit (.int 2)) (.bin .mod (.prim .int (.cons (.bin .add (.bin .mul (.oix 0 (.lit (.int 2))) (.lit (.int 48271))) (.lit (.int 11))) .nil)) (.lit (.int 2147483647)))) (.cons (.ret (.bin .mod (.prim .int (.cons (.bin .fdiv (.oix 0 (.lit (.int 2))) (.lit (.int 7))) .nil)) (.var 1))) .nil)) .nil) (.cons (.asg (.nm 3) (.ix (.oix 0 (.lit (.int 0))) (.bin .sub (.oix 0 (.lit (.int 1))) (.lit (.int 1))))) (.cons (.setix 0 (.lit (.int 2)) (.bin .mod (.prim .int (.cons (.bin .add (.bin .add (.bin .mul (.oix 0 (.lit (.int 2))) (.lit (.int 48271))) (.var 3)) (.lit (.int 11))) .nil)) (.lit (.int 2147483647)))) (.cons (.ite (.cmp .ge (.var 3) (.bin .pow (.lit (.int 10)) (.lit (.int 18)))) (.cons (.setix 0 (.lit (.int 3)) (.bin .fdiv (.var 3) (.var 1))) .nil) .nil) (.cons (.ret (.bin .mod (.prim .int (.cons (.var 3) .nil)) (.var 1))) .nil)))))))
def en70 : Ent := { name := "_law_taken", np := 2, N := ["_law_row", "_law_many", "_law_found", "_law_cell"], io := true, ir := ir70, params := L2.defArgs (top 97), body := L2.defBody (top 97), scope := L2.defScope (top 97) }
/-- 71 -/
def ir71 : Sm := (.cons (.ite (.isi .isSeq (.var 1)) (.cons (.ite (.or (.not (.isi .isSeq (.var 0))) (.cmp .ne (.isi .isLst (.var 0)) (.isi .isLst (.var 1)))) (.cons (.ret (.lit (.bl false))) .nil) .nil) (.cons (.ite (.cmp .ne (.prim .len (.cons (.var 0) .nil)) (.prim .len (.cons (.var 1) .nil))) (.cons (.ret (.lit (.bl false))) .nil) .nil) (.cons (.ret (.cmp .eq (.lc [2] (.nm 2) (.rng1 (.prim .len (.cons (.var 1) .nil))) (.not (.call 71 none (.cons (.ix (.var 0) (.var 2)) (.cons (.ix (.var 1) (.var 2)) .nil)))) (.var 2)) (.lst .nil))) .nil))) .nil) (.cons (.ite (.or (.cmp .isN (.var 1) (.lit .non)) (.isi .isStr (.var 1))) (.cons (.ret (.and (.cmp .eq (.var 0) (.var 1)) (.cmp .eq (.isi .isStr (.var 0)) (.isi .isStr (.var 1))))) .nil) .nil) (.cons (.ret (.and (.isi .isInt (.var 0)) (.and (.cmp .eq (.isi .isBool (.var 0)) (.isi .isBool (.var 1))) (.cmp .eq (.var 0) (.var 1))))) .nil)))
def en71 : Ent := { name := "_law_alike", np := 2, N := ["_law_found", "_law_due", "_law_k"], io := false, ir := ir71, params := L2.defArgs (top 98), body := L2.defBody (top 98), scope := L2.defScope (top 98) }
/-- 72 -/
def ir72 : Sm := (.cons (.own 1 (.lst (.cons (.var 0) (.cons (.lit (.int 0)) (.cons (.lit (.int 3231)) (.cons (.lit (.int 0)) .nil)))))) (.cons (.asg (.nm 2) (.tup (.cons (.tup (.cons (.lit (.int 0)) (.cons (.lit (.int 0)) (.cons (.lit (.int 1)) .nil)))) (.cons (.tup (.cons (.lit (.int 4)) (.cons (.lit (.int 0)) (.cons (.lit (.int 1)) .nil)))) (.cons (.tup (.cons (.lit (.int 5)) (.cons (.lit (.int 3)) (.cons (.lit (.int 1)) .nil)))) (.cons (.tup (.cons (.lit (.int 2)) (.cons (.lit (.int 5)) (.cons (.lit (.int 1)) .nil)))) (.cons (.tup (.cons (.neg (.lit (.int 1))) (.cons (.lit (.int 3)) (.cons (.lit (.int 1)) .nil)))) .nil))))))) (.cons (.ite (.cmp .eq (.call 70 (some 1) (.cons (.lit (.int 2)) .nil)) (.lit (.int 0))) (.cons (.asg (.nm 3) (.lst (.cons (.call 64 none (.cons (.var 2) .nil)) (.cons (.call 65 none (.cons (.var 2) .nil)) (.cons (.call 66 none (.cons (.var 2) .nil)) (.cons (.call 21 none (.cons (.var 2) .nil)) .nil)))))) (.cons (.ite (.or (.not (.call 71 none (.cons (.var 3) (.cons (.lst (.cons (.tup (.cons (.lit (.int 5)) (.cons (.lit (.int 5)) (.cons (.lit (.int 5)) (.cons (.lit (.int 5)) .nil))))) (.cons (.lit (.int 5)) (.cons (.tup .nil) (.cons (.bin .mul (.tup (.cons (.lit (.int 1)) .nil)) (.lit (.int 10))) .nil))))) .nil)))) (.cmp .notN (.call 27 none (.cons (.lit (.int 5)) (.cons (.bin .mul (.tup (.cons (.lit (.int 1)) .nil)) (.lit (.int 10))) .nil))) (.lit .non))) (.cons (.ret (.lit (.bl false))) .nil) .nil) (.cons (.ite (.not (.call 71 none (.cons (.call 27 none (.cons (.lit (.int 4)) (.cons (.tup (.cons (.neg (.lit (.int 1))) (.cons (.lit (.int 1)) (.cons (.neg (.lit (.int 1))) (.cons (.lit (.int 1)) .nil))))) .nil))) (.cons (.tup (.cons (.lit (.int 0)) (.cons (.lit (.int 1)) (.cons (.lit (.int 2)) (.cons (.lit (.int 3)) .nil))))) .nil)))) (.cons (.ret (.lit (.bl false))) .nil) .nil) (.cons (.ite (.cmp .notN (.call 30 none (.cons (.lit (.int 4)) (.cons (.tup (.cons (.lit (.int 1)) (.cons (.neg (.lit (.int 1))) (.cons (.lit (.int 1)) (.cons (.neg (.lit (.int 1))) .nil))))) .nil))) (.lit .non)) (.cons (.ret (.lit (.bl false))) .nil) .nil) (.cons (.asg (.nm 3) (.lst (.cons (.call 66 none (.cons (.sl (.var 2) (.lit .non) (.lit (.int 4))) .nil)) (.cons (.call 67 none (.cons (.sl (.var 2) (.lit .non) (.lit (.int 3))) (.cons (.lit (.int 1)) .nil))) (.cons (.call 67 none (.cons (.sl (.var 2) (.lit .non) (.lit (.int 2))) (.cons (.lit (.int 1)) .nil))) (.cons (.call 67 none (.cons (.var 2) (.cons (.lit (.int 0)) .nil))) .nil)))))) (.cons (.ite (.not (.call 71 none (.cons (.var 3) (.cons (.lst (.cons (.tup (.cons (.tup (.cons (.lit (.int 0)) (.cons (.lit (.int 2)) .nil))) (.cons (.tup (.cons (.lit (.int 1)) (.cons (.lit (.int 3)) .nil))) .nil))) (.cons (.tup (.cons (.tup (.cons (.lit (.int 0)) .nil)) (.cons (.tup (.cons (.lit (.int 1)) .nil)) (.cons (.tup (.cons (.lit (.int 2)) .nil)) .nil)))) (.cons (.tup (.cons (.tup (.cons (.lit (.int 0)) .nil)) (.cons (.tup (.cons (.lit (.int 1)) .nil)) .nil))) (.cons (.tup (.cons (.tup .nil) .nil)) .nil))))) .nil)))) (.cons (.ret (.lit (.bl false))) .nil) .nil) (.cons (.ret (.call 71 none (.cons (.lst (.cons (.call 64 none (.cons (.sl (.var 2) (.lit .non) (.lit (.int 2))) .nil)) (.cons (.call 65 none (.cons (.sl (.var 2) (.lit .non) (.lit (.int 1))) .nil)) (.cons (.call 66 none (.cons (.sl (.var 2) (.lit .non) (.lit (.int 2))) .nil)) .nil)))) (.cons (.lst (.cons (.tup (.cons (.lit (.int 2)) .nil)) (.cons (.lit (.int 0)) (.cons (.tup (.cons (.tup (.cons (.lit (.int 0)) (.cons (.lit (.int 1)) .nil))) .nil)) .nil)))) .nil)))) .nil))))))) .nil) (.cons (.asg (.nm 4) (.tup (.cons (.tup (.cons (.tup (.cons (.lit (.int 0)) (.cons (.lit (.int 1)) .nil))) (.cons (.tup (.cons (.lit (.int 0)) (.cons (.lit (.int 1)) .nil))) .nil))) (.cons (.tup (.cons (.tup (.cons (.lit (.int 1)) (.cons (.lit (.int 1)) .nil))) (.cons (.tup (.cons (.lit (.int 0)) (.cons (.lit (.int 1)) .nil))) .nil))) (.cons (.tup (.cons (.tup (.cons (.neg (.lit (.int 1))) (.cons (.lit (.int 1)) .nil))) (.cons (.tup (.cons (.lit (.int 2)) (.cons (.lit (.int 1)) .nil))) .nil))) .nil))))) (.cons (.ite (.not (.call 71 none (.cons (.call 61 none (.cons (.var 4) (.cons (.lit (.int 0)) .nil))) (.cons (.tup (.cons (.tup (.cons (.lit (.int 0)) (.cons (.lit (.int 0)) (.cons (.lit (.int 1)) .nil)))) (.cons (.tup (.cons (.lit (.int 2)) (.cons (.lit (.int 0)) (.cons (.lit (.int 1)) .nil)))) .nil))) .nil)))) (.cons (.ret (.lit (.bl false))) .nil) .nil) (.cons (.ite (.not (.call 71 none (.cons (.lst (.cons (.call 61 none (.cons (.var 4) (.cons (.lit (.int 1)) .nil))) (.cons (.call 61 none (.cons (.sl (.var 4) (.lit .non) (.lit (.int 1))) (.cons (.lit (.int 0)) .nil))) .nil))) (.cons (.lst (.cons (.tup (.cons (.tup (.cons (.lit (.int 1)) (.cons (.lit (.int 1)) (.cons (.lit (.int 1)) .nil)))) .nil)) (.cons (.tup .nil) .nil))) .nil)))) (.cons (.ret (.lit (.bl false))) .nil) .nil) (.cons (.asg (.nm 3) (.lst (.cons (.call 56 none (.cons (.ix (.var 4) (.lit (.int 1))) (.cons (.tup (.cons (.lit (.int 1)) (.cons (.lit (.int 2)) (.cons (.lit (.int 1)) .nil)))) .nil))) (.cons (.call 56 none (.cons (.ix (.var 4) (.lit (.int 1))) (.cons (.tup (.cons (.lit (.int 2)) (.cons (.lit (.int 2)) (.cons (.lit (.int 3)) .nil)))) .nil))) (.cons (.call 56 none (.cons (.ix (.var 4) (.lit (.int 2))) (.cons (.tup (.cons (.lit (.int 0)) (.cons (.lit (.int 1)) (.cons (.lit (.int 1)) .nil)))) .nil))) .nil))))) (.cons (.ite (.not (.call 71 none (.cons (.var 3) (.cons (.lst (.cons (.lit (.int 1)) (.cons (.lit (.int 0)) (.cons (.neg (.lit (.int 1))) .nil)))) .nil)))) (.cons (.ret (.lit (.bl false))) .nil) .nil) (.cons (.ite (.not (.call 71 none (.cons (.lst (.cons (.call 57 none (.cons (.tup (.cons (.lit (.int 2)) (.cons (.lit (.int 3)) (.cons (.lit (.int 1)) .nil)))) .nil)) (.cons (.call 58 none (.cons (.tup (.cons (.tup (.cons (.lit (.int 1)) (.cons (.lit (.int 2)) .nil))) (.cons (.tup (.cons (.lit (.int 3)) (.cons (.lit (.int 1)) .nil))) .nil))) .nil)) .nil))) (.cons (.lst (.cons (.tup (.cons (.tup (.cons (.lit (.int 2)) (.cons (.lit (.int 1)) .nil))) (.cons (.tup (.cons (.neg (.lit (.int 3))) (.cons (.lit (.int 1)) .nil))) .nil))) (.cons (.tup (.cons (.lit (.int 1)) (.cons (.neg (.lit (.int 6))) (.cons (.lit (.int 2)) .nil)))) .nil))) .nil)))) (.cons (.ret (.lit (.bl false))) .nil) .nil) (.cons (.asg (.nm 5) (.tup (.cons (.tup (.cons (.lit (.int 0)) (.cons (.lit (.int 0)) (.cons (.lit (.int 1)) .nil)))) (.cons (.tup (.cons (.lit (.int 2)) (.cons (.lit (.int 0)) (.cons (.lit (.int 1)) .nil)))) (.cons (.tup (.cons (.lit (.int 2)) (.cons (.lit (.int 2)) (.cons (.lit (.int 1)) .nil)))) (.cons (.tup (.cons (.lit (.int 0)) (.cons (.lit (.int 2)) (.cons (.lit (.int 1)) .nil)))) .nil)))))) (.cons (.asg (.nm 3) (.lst (.cons (.ix (.call 52 none (.cons (.var 5) (.cons (.tup (.cons (.lit (.int 1)) (.cons (.lit (.int 1)) (.cons (.lit (.int 1)) .nil)))) .nil))) (.lit (.int 0))) (.cons (.ix (.call 52 none (.cons (.var 5) (.cons (.tup (.cons (.lit (.int 5)) (.cons (.lit (.int 1)) (.cons (.lit (.int 1)) .nil)))) .nil))) (.lit (.int 0))) (.cons (.ix (.call 52 none (.cons (.var 5) (.cons (.tup (.cons (.lit (.int 0)) (.cons (.lit (.int 0)) (.cons (.lit (.int 1)) .nil)))) .nil))) (.lit (.int 0))) .nil))))) (.cons (.ite (.or (.not (.call 71 none (.cons (.var 3) (.cons (.lst (.cons (.lit (.int 2)) (.cons (.lit (.int 0)) (.cons (.lit (.int 1)) .nil)))) .nil)))) (.not (.call 71 none (.cons (.call 69 none (.cons (.tup (.cons (.tup (.cons (.lit (.int 0)) (.cons (.lit (.int 0)) (.cons (.lit (.int 1)) .nil)))) .nil)) (.cons (.tup (.cons (.tup (.cons (.lit (.int 3)) (.cons (.lit (.int 1)) (.cons (.lit (.int 1)) .nil)))) .nil)) .nil))) (.cons (.tup (.cons (.lit (.int 0)) (.cons (.lit (.int 0)) .nil))) .nil))))) (.cons (.ret (.lit (.bl false))) .nil) .nil) (.cons (.ite (.or (.cmp .ne (.prim .sorted (.cons (.ix (.call 46 none (.cons (.var 5) .nil)) (.lit (.int 0))) .nil)) (.lst (.cons (.tup (.cons (.lit (.int 0)) (.cons (.lit (.int 2)) .nil))) (.cons (.tup (.cons (.lit (.int 1)) (.cons (.lit (.int 3)) .nil))) .nil)))) (.cmp .ne (.ix (.call 46 none (.cons (.var 5) .nil)) (.lit (.int 1))) (.tup (.cons (.lit (.int 1)) (.cons (.lit (.int 1)) (.cons (.lit (.int 1)) .nil)))))) (.cons (.ret (.lit (.bl false))) .nil) .nil) (.cons (.ret (.call 71 none (.cons (.call 48 none (.cons (.var 5) (.cons (.tup (.cons (.tup (.cons (.tup (.cons (.lit (.int 0)) (.cons (.lit (.int 2)) .nil))) (.cons (.tup (.cons (.lit (.int 1)) (.cons (.lit (.int 3)) .nil))) .nil))) (.cons (.tup (.cons (.lit (.int 1)) (.cons (.lit (.int 1)) (.cons (.lit (.int 1)) .nil)))) .nil))) .nil))) (.cons (.lit (.bl true)) .nil)))) .nil))))))))))))))
def en72 : Ent := { name := "law", np := 1, N := ["_law_script", "_law_row", "_law_five", "_law_found", "_law_lines", "_law_square"], io := false, ir := ir72, params := L2.defArgs (top 99), body := L2.defBody (top 99), scope := L2.defScope (top 99) }
def ents : List Ent := [en0, en1, en2, en3, en4, en5, en6, en7, en8, en9, en10, en11, en12, en13, en14, en15, en16, en17, en18, en19, en20, en21, en22, en23, en24, en25, en26, en27, en28, en29, en30, en31, en32, en33, en34, en35, en36, en37, en38, en39, en40, en41, en42, en43, en44, en45, en46, en47, en48, en49, en50, en51, en52, en53, en54, en55, en56, en57, en58, en59, en60, en61, en62, en63, en64, en65, en66, en67, en68, en69, en70, en71, en72]
def gls : List Str := ["LARGEST", "MOST_POINTS", "SIDE", "MOST_DEEP", "MOST_LINES"]
def glv : List Int := [1000000000000, 40, 12, 12, 20]
def glob (g : Nat) : D := .int (glv.getD g 0)
end Lw
/-! the head (printed) -/
namespace Lw
open PySem PySem.Spec PyProof.Rows L2 Ev
def fn : List He.DefD := ents.map dOf
def fa : List He.Fa := faOf ents gls glv
abbrev Rw : PySem.W.OpenRow := PySem.W.OpenLaw.row PySem.Challenge.rw_meshcore_k31_known_order_types
abbrev hk : PySem.W.Hook := He.hookX 2 fa fn [] (lamDefs ents) (apart ents)
def ob (s : PySem.W.SharedT) : He.AlX := He.obsX 2 fa fn [] (lamDefs ents) (apart ents) (HandSHeadRun.getT s)
theorem ob_eq (s : PySem.W.SharedT) : ob s = hk.obs s.abs := He.obsX_eq (HandSHeadRun.getT_eq s)
def loose : List Str := ((["is_in", "gcd", "reduced", "plus", "minus", "times", "over", "is_ratio", "sign", "lowest", "is_point", "need_point", "need_points", "order_of", "common_weight", "scaled", "ranked", "doubled", "turn_of", "is_between", "triples_of", "signs_of", "need_signs", "table_of", "oriented", "four_contradict", "five_contradict", "contradiction", "fits", "grown", "realized", "line_through", "lines_meet", "is_crossing", "common", "hull_indexes", "weights_in", "along", "barrier", "raised", "locate_in", "is_in_hull", "meets_of", "parted", "common_part", "with_rest", "radon", "is_any_point", "shows_common", "need_few", "depth_of", "tilted", "depth", "is_line", "need_line", "height", "above", "dual_of_point", "dual_of_line", "need_lines", "corner_of", "level_corners", "need_general", "lefts", "left_counts", "crossing_count", "halving_pairs", "separable", "is_halved", "halving_both", "_law_taken", "_law_alike", "MeshError", "BadPoint", "BadPoints", "TooMany", "BadNumber", "BadSigns", "TooFew", "BadLine", "BadLines", "NotGeneral", "BadPair", "LARGEST", "MOST_POINTS", "SIDE", "MOST_DEEP", "MOST_LINES"] : List String).map Str.ofString)
theorem run (w : World) : HandSHeadRun.RunEq Rw (PySem.W.view Rw.prog [99]) hk ob 9000 loose w := by
  intro os
  kernel_rfl
theorem tbl_ok : ents.all (entB (ents.map Ent.fi) gls) = true := by decide +kernel
theorem bd0 {K : PySem.W.Frag} {f : Addr} {fd : FuncData} (F : FunD K en0.name en0.name en0.params en0.body en0.scope [] [] f fd) : L2.Binds K fd (en0.N.take en0.np) [] := F.bindsN fun _ _ _ _ _ _ us hl => match us, hl with | [_, _, _], _ => rfl
theorem bd1 {K : PySem.W.Frag} {f : Addr} {fd : FuncData} (F : FunD K en1.name en1.name en1.params en1.body en1.scope [] [] f fd) : L2.Binds K fd (en1.N.take en1.np) [] := F.bindsN fun _ _ _ _ _ _ us hl => match us, hl with | [_, _], _ => rfl
theorem bd2 {K : PySem.W.Frag} {f : Addr} {fd : FuncData} (F : FunD K en2.name en2.name en2.params en2.body en2.scope [] [] f fd) : L2.Binds K fd (en2.N.take en2.np) [] := F.bindsN fun _ _ _ _ _ _ us hl => match us, hl with | [_, _], _ => rfl
theorem bd3 {K : PySem.W.Frag} {f : Addr} {fd : FuncData} (F : FunD K en3.name en3.name en3.params en3.body en3.scope [] [] f fd) : L2.Binds K fd (en3.N.take en3.np) [] := F.bindsN fun _ _ _ _ _ _ us hl => match us, hl with | [_, _], _ => rfl
theorem bd4 {K : PySem.W.Frag} {f : Addr} {fd : FuncData} (F : FunD K en4.name en4.name en4.params en4.body en4.scope [] [] f fd) : L2.Binds K fd (en4.N.take en4.np) [] := F.bindsN fun _ _ _ _ _ _ us hl => match us, hl with | [_, _], _ => rfl
theorem bd5 {K : PySem.W.Frag} {f : Addr} {fd : FuncData} (F : FunD K en5.name en5.name en5.params en5.body en5.scope [] [] f fd) : L2.Binds K fd (en5.N.take en5.np) [] := F.bindsN fun _ _ _ _ _ _ us hl => match us, hl with | [_, _], _ => rfl
theorem bd6 {K : PySem.W.Frag} {f : Addr} {fd : FuncData} (F : FunD K en6.name en6.name en6.params en6.body en6.scope [] [] f fd) : L2.Binds K fd (en6.N.take en6.np) [] := F.bindsN fun _ _ _ _ _ _ us hl => match us, hl with | [_, _], _ => rfl
theorem bd7 {K : PySem.W.Frag} {f : Addr} {fd : FuncData} (F : FunD K en7.name en7.name en7.params en7.body en7.scope [] [] f fd) : L2.Binds K fd (en7.N.take en7.np) [] := F.bindsN fun _ _ _ _ _ _ us hl => match us, hl with | [_], _ => rfl
theorem bd8 {K : PySem.W.Frag} {f : Addr} {fd : FuncData} (F : FunD K en8.name en8.name en8.params en8.body en8.scope [] [] f fd) : L2.Binds K fd (en8.N.take en8.np) [] := F.bindsN fun _ _ _ _ _ _ us hl => match us, hl with | [_], _ => rfl
theorem bd9 {K : PySem.W.Frag} {f : Addr} {fd : FuncData} (F : FunD K en9.name en9.name en9.params en9.body en9.scope [] [] f fd) : L2.Binds K fd (en9.N.take en9.np) [] := F.bindsN fun _ _ _ _ _ _ us hl => match us, hl with | [_, _, _], _ => rfl
theorem bd10 {K : PySem.W.Frag} {f : Addr} {fd : FuncData} (F : FunD K en10.name en10.name en10.params en10.body en10.scope [] [] f fd) : L2.Binds K fd (en10.N.take en10.np) [] := F.bindsN fun _ _ _ _ _ _ us hl => match us, hl with | [_], _ => rfl
theorem bd11 {K : PySem.W.Frag} {f : Addr} {fd : FuncData} (F : FunD K en11.name en11.name en11.params en11.body en11.scope [] [] f fd) : L2.Binds K fd (en11.N.take en11.np) [] := F.bindsN fun _ _ _ _ _ _ us hl => match us, hl with | [_], _ => rfl
theorem bd12 {K : PySem.W.Frag} {f : Addr} {fd : FuncData} (F : FunD K en12.name en12.name en12.params en12.body en12.scope [] [] f fd) : L2.Binds K fd (en12.N.take en12.np) [] := F.bindsN fun _ _ _ _ _ _ us hl => match us, hl with | [_], _ => rfl
theorem bd13 {K : PySem.W.Frag} {f : Addr} {fd : FuncData} (F : FunD K en13.name en13.name en13.params en13.body en13.scope [] [] f fd) : L2.Binds K fd (en13.N.take en13.np) [] := F.bindsN fun _ _ _ _ _ _ us hl => match us, hl with | [_, _], _ => rfl
theorem bd14 {K : PySem.W.Frag} {f : Addr} {fd : FuncData} (F : FunD K en14.name en14.name en14.params en14.body en14.scope [] [] f fd) : L2.Binds K fd (en14.N.take en14.np) [] := F.bindsN fun _ _ _ _ _ _ us hl => match us, hl with | [_], _ => rfl
theorem bd15 {K : PySem.W.Frag} {f : Addr} {fd : FuncData} (F : FunD K en15.name en15.name en15.params en15.body en15.scope [] [] f fd) : L2.Binds K fd (en15.N.take en15.np) [] := F.bindsN fun _ _ _ _ _ _ us hl => match us, hl with | [_], _ => rfl
theorem bd16 {K : PySem.W.Frag} {f : Addr} {fd : FuncData} (F : FunD K en16.name en16.name en16.params en16.body en16.scope [] [] f fd) : L2.Binds K fd (en16.N.take en16.np) [] := F.bindsN fun _ _ _ _ _ _ us hl => match us, hl with | [_], _ => rfl
theorem bd17 {K : PySem.W.Frag} {f : Addr} {fd : FuncData} (F : FunD K en17.name en17.name en17.params en17.body en17.scope [] [] f fd) : L2.Binds K fd (en17.N.take en17.np) [] := F.bindsN fun _ _ _ _ _ _ us hl => match us, hl with | [_, _, _], _ => rfl
theorem bd18 {K : PySem.W.Frag} {f : Addr} {fd : FuncData} (F : FunD K en18.name en18.name en18.params en18.body en18.scope [] [] f fd) : L2.Binds K fd (en18.N.take en18.np) [] := F.bindsN fun _ _ _ _ _ _ us hl => match us, hl with | [_, _, _], _ => rfl
theorem bd19 {K : PySem.W.Frag} {f : Addr} {fd : FuncData} (F : FunD K en19.name en19.name en19.params en19.body en19.scope [] [] f fd) : L2.Binds K fd (en19.N.take en19.np) [] := F.bindsN fun _ _ _ _ _ _ us hl => match us, hl with | [_, _, _], _ => rfl
theorem bd20 {K : PySem.W.Frag} {f : Addr} {fd : FuncData} (F : FunD K en20.name en20.name en20.params en20.body en20.scope [] [] f fd) : L2.Binds K fd (en20.N.take en20.np) [] := F.bindsN fun _ _ _ _ _ _ us hl => match us, hl with | [_], _ => rfl
theorem bd21 {K : PySem.W.Frag} {f : Addr} {fd : FuncData} (F : FunD K en21.name en21.name en21.params en21.body en21.scope [] [] f fd) : L2.Binds K fd (en21.N.take en21.np) [] := F.bindsN fun _ _ _ _ _ _ us hl => match us, hl with | [_], _ => rfl
theorem bd22 {K : PySem.W.Frag} {f : Addr} {fd : FuncData} (F : FunD K en22.name en22.name en22.params en22.body en22.scope [] [] f fd) : L2.Binds K fd (en22.N.take en22.np) [] := F.bindsN fun _ _ _ _ _ _ us hl => match us, hl with | [_, _], _ => rfl
theorem bd23 {K : PySem.W.Frag} {f : Addr} {fd : FuncData} (F : FunD K en23.name en23.name en23.params en23.body en23.scope [] [] f fd) : L2.Binds K fd (en23.N.take en23.np) [] := F.bindsN fun _ _ _ _ _ _ us hl => match us, hl with | [_, _], _ => rfl
theorem bd24 {K : PySem.W.Frag} {f : Addr} {fd : FuncData} (F : FunD K en24.name en24.name en24.params en24.body en24.scope [] [] f fd) : L2.Binds K fd (en24.N.take en24.np) [] := F.bindsN fun _ _ _ _ _ _ us hl => match us, hl with | [_, _, _, _], _ => rfl
theorem bd25 {K : PySem.W.Frag} {f : Addr} {fd : FuncData} (F : FunD K en25.name en25.name en25.params en25.body en25.scope [] [] f fd) : L2.Binds K fd (en25.N.take en25.np) [] := F.bindsN fun _ _ _ _ _ _ us hl => match us, hl with | [_, _, _, _, _], _ => rfl
theorem bd26 {K : PySem.W.Frag} {f : Addr} {fd : FuncData} (F : FunD K en26.name en26.name en26.params en26.body en26.scope [] [] f fd) : L2.Binds K fd (en26.N.take en26.np) [] := F.bindsN fun _ _ _ _ _ _ us hl => match us, hl with | [_, _], _ => rfl
theorem bd27 {K : PySem.W.Frag} {f : Addr} {fd : FuncData} (F : FunD K en27.name en27.name en27.params en27.body en27.scope [] [] f fd) : L2.Binds K fd (en27.N.take en27.np) [] := F.bindsN fun _ _ _ _ _ _ us hl => match us, hl with | [_, _], _ => rfl
theorem bd28 {K : PySem.W.Frag} {f : Addr} {fd : FuncData} (F : FunD K en28.name en28.name en28.params en28.body en28.scope [] [] f fd) : L2.Binds K fd (en28.N.take en28.np) [] := F.bindsN fun _ _ _ _ _ _ us hl => match us, hl with | [_, _, _], _ => rfl
theorem bd29 {K : PySem.W.Frag} {f : Addr} {fd : FuncData} (F : FunD K en29.name en29.name en29.params en29.body en29.scope [] [] f fd) : L2.Binds K fd (en29.N.take en29.np) [] := F.bindsN fun _ _ _ _ _ _ us hl => match us, hl with | [_, _, _], _ => rfl
theorem bd30 {K : PySem.W.Frag} {f : Addr} {fd : FuncData} (F : FunD K en30.name en30.name en30.params en30.body en30.scope [] [] f fd) : L2.Binds K fd (en30.N.take en30.np) [] := F.bindsN fun _ _ _ _ _ _ us hl => match us, hl with | [_, _], _ => rfl
theorem bd31 {K : PySem.W.Frag} {f : Addr} {fd : FuncData} (F : FunD K en31.name en31.name en31.params en31.body en31.scope [] [] f fd) : L2.Binds K fd (en31.N.take en31.np) [] := F.bindsN fun _ _ _ _ _ _ us hl => match us, hl with | [_, _], _ => rfl
theorem bd32 {K : PySem.W.Frag} {f : Addr} {fd : FuncData} (F : FunD K en32.name en32.name en32.params en32.body en32.scope [] [] f fd) : L2.Binds K fd (en32.N.take en32.np) [] := F.bindsN fun _ _ _ _ _ _ us hl => match us, hl with | [_, _, _, _], _ => rfl
theorem bd33 {K : PySem.W.Frag} {f : Addr} {fd : FuncData} (F : FunD K en33.name en33.name en33.params en33.body en33.scope [] [] f fd) : L2.Binds K fd (en33.N.take en33.np) [] := F.bindsN fun _ _ _ _ _ _ us hl => match us, hl with | [_, _, _, _], _ => rfl
theorem bd34 {K : PySem.W.Frag} {f : Addr} {fd : FuncData} (F : FunD K en34.name en34.name en34.params en34.body en34.scope [] [] f fd) : L2.Binds K fd (en34.N.take en34.np) [] := F.bindsN fun _ _ _ _ _ _ us hl => match us, hl with | [_, _, _, _], _ => rfl
theorem bd35 {K : PySem.W.Frag} {f : Addr} {fd : FuncData} (F : FunD K en35.name en35.name en35.params en35.body en35.scope [] [] f fd) : L2.Binds K fd (en35.N.take en35.np) [] := F.bindsN fun _ _ _ _ _ _ us hl => match us, hl with | [_], _ => rfl
theorem bd36 {K : PySem.W.Frag} {f : Addr} {fd : FuncData} (F : FunD K en36.name en36.name en36.params en36.body en36.scope [] [] f fd) : L2.Binds K fd (en36.N.take en36.np) [] := F.bindsN fun _ _ _ _ _ _ us hl => match us, hl with | [_, _, _], _ => rfl
theorem bd37 {K : PySem.W.Frag} {f : Addr} {fd : FuncData} (F : FunD K en37.name en37.name en37.params en37.body en37.scope [] [] f fd) : L2.Binds K fd (en37.N.take en37.np) [] := F.bindsN fun _ _ _ _ _ _ us hl => match us, hl with | [_, _, _], _ => rfl
theorem bd38 {K : PySem.W.Frag} {f : Addr} {fd : FuncData} (F : FunD K en38.name en38.name en38.params en38.body en38.scope [] [] f fd) : L2.Binds K fd (en38.N.take en38.np) [] := F.bindsN fun _ _ _ _ _ _ us hl => match us, hl with | [_, _, _], _ => rfl
theorem bd39 {K : PySem.W.Frag} {f : Addr} {fd : FuncData} (F : FunD K en39.name en39.name en39.params en39.body en39.scope [] [] f fd) : L2.Binds K fd (en39.N.take en39.np) [] := F.bindsN fun _ _ _ _ _ _ us hl => match us, hl with | [_, _, _], _ => rfl
theorem bd40 {K : PySem.W.Frag} {f : Addr} {fd : FuncData} (F : FunD K en40.name en40.name en40.params en40.body en40.scope [] [] f fd) : L2.Binds K fd (en40.N.take en40.np) [] := F.bindsN fun _ _ _ _ _ _ us hl => match us, hl with | [_, _], _ => rfl
theorem bd41 {K : PySem.W.Frag} {f : Addr} {fd : FuncData} (F : FunD K en41.name en41.name en41.params en41.body en41.scope [] [] f fd) : L2.Binds K fd (en41.N.take en41.np) [] := F.bindsN fun _ _ _ _ _ _ us hl => match us, hl with | [_, _, _], _ => rfl
theorem bd42 {K : PySem.W.Frag} {f : Addr} {fd : FuncData} (F : FunD K en42.name en42.name en42.params en42.body en42.scope [] [] f fd) : L2.Binds K fd (en42.N.take en42.np) [] := F.bindsN fun _ _ _ _ _ _ us hl => match us, hl with | [_, _], _ => rfl
theorem bd43 {K : PySem.W.Frag} {f : Addr} {fd : FuncData} (F : FunD K en43.name en43.name en43.params en43.body en43.scope [] [] f fd) : L2.Binds K fd (en43.N.take en43.np) [] := F.bindsN fun _ _ _ _ _ _ us hl => match us, hl with | [_, _], _ => rfl
theorem bd44 {K : PySem.W.Frag} {f : Addr} {fd : FuncData} (F : FunD K en44.name en44.name en44.params en44.body en44.scope [] [] f fd) : L2.Binds K fd (en44.N.take en44.np) [] := F.bindsN fun _ _ _ _ _ _ us hl => match us, hl with | [_, _, _], _ => rfl
theorem bd45 {K : PySem.W.Frag} {f : Addr} {fd : FuncData} (F : FunD K en45.name en45.name en45.params en45.body en45.scope [] [] f fd) : L2.Binds K fd (en45.N.take en45.np) [] := F.bindsN fun _ _ _ _ _ _ us hl => match us, hl with | [_, _, _], _ => rfl
theorem bd46 {K : PySem.W.Frag} {f : Addr} {fd : FuncData} (F : FunD K en46.name en46.name en46.params en46.body en46.scope [] [] f fd) : L2.Binds K fd (en46.N.take en46.np) [] := F.bindsN fun _ _ _ _ _ _ us hl => match us, hl with | [_], _ => rfl
theorem bd47 {K : PySem.W.Frag} {f : Addr} {fd : FuncData} (F : FunD K en47.name en47.name en47.params en47.body en47.scope [] [] f fd) : L2.Binds K fd (en47.N.take en47.np) [] := F.bindsN fun _ _ _ _ _ _ us hl => match us, hl with | [_], _ => rfl
theorem bd48 {K : PySem.W.Frag} {f : Addr} {fd : FuncData} (F : FunD K en48.name en48.name en48.params en48.body en48.scope [] [] f fd) : L2.Binds K fd (en48.N.take en48.np) [] := F.bindsN fun _ _ _ _ _ _ us hl => match us, hl with | [_, _], _ => rfl
theorem bd49 {K : PySem.W.Frag} {f : Addr} {fd : FuncData} (F : FunD K en49.name en49.name en49.params en49.body en49.scope [] [] f fd) : L2.Binds K fd (en49.N.take en49.np) [] := F.bindsN fun _ _ _ _ _ _ us hl => match us, hl with | [_], _ => rfl
theorem bd50 {K : PySem.W.Frag} {f : Addr} {fd : FuncData} (F : FunD K en50.name en50.name en50.params en50.body en50.scope [] [] f fd) : L2.Binds K fd (en50.N.take en50.np) [] := F.bindsN fun _ _ _ _ _ _ us hl => match us, hl with | [_, _], _ => rfl
theorem bd51 {K : PySem.W.Frag} {f : Addr} {fd : FuncData} (F : FunD K en51.name en51.name en51.params en51.body en51.scope [] [] f fd) : L2.Binds K fd (en51.N.take en51.np) [] := F.bindsN fun _ _ _ _ _ _ us hl => match us, hl with | [_, _, _], _ => rfl
theorem bd52 {K : PySem.W.Frag} {f : Addr} {fd : FuncData} (F : FunD K en52.name en52.name en52.params en52.body en52.scope [] [] f fd) : L2.Binds K fd (en52.N.take en52.np) [] := F.bindsN fun _ _ _ _ _ _ us hl => match us, hl with | [_, _], _ => rfl
theorem bd53 {K : PySem.W.Frag} {f : Addr} {fd : FuncData} (F : FunD K en53.name en53.name en53.params en53.body en53.scope [] [] f fd) : L2.Binds K fd (en53.N.take en53.np) [] := F.bindsN fun _ _ _ _ _ _ us hl => match us, hl with | [_], _ => rfl
theorem bd54 {K : PySem.W.Frag} {f : Addr} {fd : FuncData} (F : FunD K en54.name en54.name en54.params en54.body en54.scope [] [] f fd) : L2.Binds K fd (en54.N.take en54.np) [] := F.bindsN fun _ _ _ _ _ _ us hl => match us, hl with | [_], _ => rfl
theorem bd55 {K : PySem.W.Frag} {f : Addr} {fd : FuncData} (F : FunD K en55.name en55.name en55.params en55.body en55.scope [] [] f fd) : L2.Binds K fd (en55.N.take en55.np) [] := F.bindsN fun _ _ _ _ _ _ us hl => match us, hl with | [_, _], _ => rfl
theorem bd56 {K : PySem.W.Frag} {f : Addr} {fd : FuncData} (F : FunD K en56.name en56.name en56.params en56.body en56.scope [] [] f fd) : L2.Binds K fd (en56.N.take en56.np) [] := F.bindsN fun _ _ _ _ _ _ us hl => match us, hl with | [_, _], _ => rfl
theorem bd57 {K : PySem.W.Frag} {f : Addr} {fd : FuncData} (F : FunD K en57.name en57.name en57.params en57.body en57.scope [] [] f fd) : L2.Binds K fd (en57.N.take en57.np) [] := F.bindsN fun _ _ _ _ _ _ us hl => match us, hl with | [_], _ => rfl
theorem bd58 {K : PySem.W.Frag} {f : Addr} {fd : FuncData} (F : FunD K en58.name en58.name en58.params en58.body en58.scope [] [] f fd) : L2.Binds K fd (en58.N.take en58.np) [] := F.bindsN fun _ _ _ _ _ _ us hl => match us, hl with | [_], _ => rfl
theorem bd59 {K : PySem.W.Frag} {f : Addr} {fd : FuncData} (F : FunD K en59.name en59.name en59.params en59.body en59.scope [] [] f fd) : L2.Binds K fd (en59.N.take en59.np) [] := F.bindsN fun _ _ _ _ _ _ us hl => match us, hl with | [_], _ => rfl
theorem bd60 {K : PySem.W.Frag} {f : Addr} {fd : FuncData} (F : FunD K en60.name en60.name en60.params en60.body en60.scope [] [] f fd) : L2.Binds K fd (en60.N.take en60.np) [] := F.bindsN fun _ _ _ _ _ _ us hl => match us, hl with | [_, _], _ => rfl
theorem bd61 {K : PySem.W.Frag} {f : Addr} {fd : FuncData} (F : FunD K en61.name en61.name en61.params en61.body en61.scope [] [] f fd) : L2.Binds K fd (en61.N.take en61.np) [] := F.bindsN fun _ _ _ _ _ _ us hl => match us, hl with | [_, _], _ => rfl
theorem bd62 {K : PySem.W.Frag} {f : Addr} {fd : FuncData} (F : FunD K en62.name en62.name en62.params en62.body en62.scope [] [] f fd) : L2.Binds K fd (en62.N.take en62.np) [] := F.bindsN fun _ _ _ _ _ _ us hl => match us, hl with | [_], _ => rfl
theorem bd63 {K : PySem.W.Frag} {f : Addr} {fd : FuncData} (F : FunD K en63.name en63.name en63.params en63.body en63.scope [] [] f fd) : L2.Binds K fd (en63.N.take en63.np) [] := F.bindsN fun _ _ _ _ _ _ us hl => match us, hl with | [_, _, _], _ => rfl
theorem bd64 {K : PySem.W.Frag} {f : Addr} {fd : FuncData} (F : FunD K en64.name en64.name en64.params en64.body en64.scope [] [] f fd) : L2.Binds K fd (en64.N.take en64.np) [] := F.bindsN fun _ _ _ _ _ _ us hl => match us, hl with | [_], _ => rfl
theorem bd65 {K : PySem.W.Frag} {f : Addr} {fd : FuncData} (F : FunD K en65.name en65.name en65.params en65.body en65.scope [] [] f fd) : L2.Binds K fd (en65.N.take en65.np) [] := F.bindsN fun _ _ _ _ _ _ us hl => match us, hl with | [_], _ => rfl
theorem bd66 {K : PySem.W.Frag} {f : Addr} {fd : FuncData} (F : FunD K en66.name en66.name en66.params en66.body en66.scope [] [] f fd) : L2.Binds K fd (en66.N.take en66.np) [] := F.bindsN fun _ _ _ _ _ _ us hl => match us, hl with | [_], _ => rfl
theorem bd67 {K : PySem.W.Frag} {f : Addr} {fd : FuncData} (F : FunD K en67.name en67.name en67.params en67.body en67.scope [] [] f fd) : L2.Binds K fd (en67.N.take en67.np) [] := F.bindsN fun _ _ _ _ _ _ us hl => match us, hl with | [_, _], _ => rfl
theorem bd68 {K : PySem.W.Frag} {f : Addr} {fd : FuncData} (F : FunD K en68.name en68.name en68.params en68.body en68.scope [] [] f fd) : L2.Binds K fd (en68.N.take en68.np) [] := F.bindsN fun _ _ _ _ _ _ us hl => match us, hl with | [_, _, _], _ => rfl
theorem bd69 {K : PySem.W.Frag} {f : Addr} {fd : FuncData} (F : FunD K en69.name en69.name en69.params en69.body en69.scope [] [] f fd) : L2.Binds K fd (en69.N.take en69.np) [] := F.bindsN fun _ _ _ _ _ _ us hl => match us, hl with | [_, _], _ => rfl
theorem bd70 {K : PySem.W.Frag} {f : Addr} {fd : FuncData} (F : FunD K en70.name en70.name en70.params en70.body en70.scope [] [] f fd) : L2.Binds K fd (en70.N.take en70.np) [] := F.bindsN fun _ _ _ _ _ _ us hl => match us, hl with | [_, _], _ => rfl
theorem bd71 {K : PySem.W.Frag} {f : Addr} {fd : FuncData} (F : FunD K en71.name en71.name en71.params en71.body en71.scope [] [] f fd) : L2.Binds K fd (en71.N.take en71.np) [] := F.bindsN fun _ _ _ _ _ _ us hl => match us, hl with | [_, _], _ => rfl
theorem bd72 {K : PySem.W.Frag} {f : Addr} {fd : FuncData} (F : FunD K en72.name en72.name en72.params en72.body en72.scope [] [] f fd) : L2.Binds K fd (en72.N.take en72.np) [] := F.bindsN fun _ _ _ _ _ _ us hl => match us, hl with | [_], _ => rfl
theorem bds : ∀ (i : Nat) (e : Ent), ents[i]? = some e → ∀ {K : PySem.W.Frag} {f : Addr} {fd : FuncData}, FunD K e.name e.name e.params e.body e.scope [] [] f fd → L2.Binds K fd (e.N.take e.np) []
  | 0, _, h => by cases h; exact bd0
  | 1, _, h => by cases h; exact bd1
  | 2, _, h => by cases h; exact bd2
  | 3, _, h => by cases h; exact bd3
  | 4, _, h => by cases h; exact bd4
  | 5, _, h => by cases h; exact bd5
  | 6, _, h => by cases h; exact bd6
  | 7, _, h => by cases h; exact bd7
  | 8, _, h => by cases h; exact bd8
  | 9, _, h => by cases h; exact bd9
  | 10, _, h => by cases h; exact bd10
  | 11, _, h => by cases h; exact bd11
  | 12, _, h => by cases h; exact bd12
  | 13, _, h => by cases h; exact bd13
  | 14, _, h => by cases h; exact bd14
  | 15, _, h => by cases h; exact bd15
  | 16, _, h => by cases h; exact bd16
  | 17, _, h => by cases h; exact bd17
  | 18, _, h => by cases h; exact bd18
  | 19, _, h => by cases h; exact bd19
  | 20, _, h => by cases h; exact bd20
  | 21, _, h => by cases h; exact bd21
  | 22, _, h => by cases h; exact bd22
  | 23, _, h => by cases h; exact bd23
  | 24, _, h => by cases h; exact bd24
  | 25, _, h => by cases h; exact bd25
  | 26, _, h => by cases h; exact bd26
  | 27, _, h => by cases h; exact bd27
  | 28, _, h => by cases h; exact bd28
  | 29, _, h => by cases h; exact bd29
  | 30, _, h => by cases h; exact bd30
  | 31, _, h => by cases h; exact bd31
  | 32, _, h => by cases h; exact bd32
  | 33, _, h => by cases h; exact bd33
  | 34, _, h => by cases h; exact bd34
  | 35, _, h => by cases h; exact bd35
  | 36, _, h => by cases h; exact bd36
  | 37, _, h => by cases h; exact bd37
  | 38, _, h => by cases h; exact bd38
  | 39, _, h => by cases h; exact bd39
  | 40, _, h => by cases h; exact bd40
  | 41, _, h => by cases h; exact bd41
  | 42, _, h => by cases h; exact bd42
  | 43, _, h => by cases h; exact bd43
  | 44, _, h => by cases h; exact bd44
  | 45, _, h => by cases h; exact bd45
  | 46, _, h => by cases h; exact bd46
  | 47, _, h => by cases h; exact bd47
  | 48, _, h => by cases h; exact bd48
  | 49, _, h => by cases h; exact bd49
  | 50, _, h => by cases h; exact bd50
  | 51, _, h => by cases h; exact bd51
  | 52, _, h => by cases h; exact bd52
  | 53, _, h => by cases h; exact bd53
  | 54, _, h => by cases h; exact bd54
  | 55, _, h => by cases h; exact bd55
  | 56, _, h => by cases h; exact bd56
  | 57, _, h => by cases h; exact bd57
  | 58, _, h => by cases h; exact bd58
  | 59, _, h => by cases h; exact bd59
  | 60, _, h => by cases h; exact bd60
  | 61, _, h => by cases h; exact bd61
  | 62, _, h => by cases h; exact bd62
  | 63, _, h => by cases h; exact bd63
  | 64, _, h => by cases h; exact bd64
  | 65, _, h => by cases h; exact bd65
  | 66, _, h => by cases h; exact bd66
  | 67, _, h => by cases h; exact bd67
  | 68, _, h => by cases h; exact bd68
  | 69, _, h => by cases h; exact bd69
  | 70, _, h => by cases h; exact bd70
  | 71, _, h => by cases h; exact bd71
  | 72, _, h => by cases h; exact bd72
  | i + 73, _, h => by cases h
theorem bdL {K : PySem.W.Frag} {f : Addr} {fd : FuncData} (F : FunD K en72.name en72.name en72.params en72.body en72.scope [] [] f fd) (s : Shared) (v : Value) : BindsTo s fd ⟨[v], []⟩ [("_law_script", v)] :=
  FunD.bindsA (ps := ["_law_script"]) F (fun _ _ _ _ _ _ us hl => match us, hl with | [_], _ => rfl) s [v] rfl
/-- the law, of the plain table -/
def Plain (depth fuel : Nat) : Prop := ∀ ns : List Int, ns.length ≤ 63 → ∃ cs, callN (globI glv) fuel (ents.map Ent.fn) depth 72 [.val (.fz (ns.map D.int))] = .ok (.bl true) cs
end Lw
section
open PySem PySem.W PySem.Calls PyProof.Rows
theorem Lw.holds {depth fuel : Nat} (hd : L2.Room depth callerA) (plain : Lw.Plain depth fuel) : PySem.Challenge.rw_meshcore_k31_known_order_types.Holds := by
  w_on; o_law
  refine HandSHeadRun.head_any (r := OpenLaw.row PySem.Challenge.rw_meshcore_k31_known_order_types) (q := view (OpenLaw.row PySem.Challenge.rw_meshcore_k31_known_order_types).prog [99]) (H := Lw.hk) (ob := Lw.ob) (M := 9000) (loose := Lw.loose) (d := HandSHeadRun.topDef (OpenLaw.row PySem.Challenge.rw_meshcore_k31_known_order_types).prog 99) (kwd := []) Lw.ob_eq
    (by kernel_rfl) (fun s => by kernel_rfl) Lw.run (by kernel_rfl) (by kernel_rfl) (by kernel_rfl) (by rfl) (by first | assumption | decide +kernel) (by decide +kernel) ⟨rfl, rfl, rfl, rfl, rfl, by decide +kernel⟩ ?hw ?hc
  case hw => w_witness2
  case hc =>
    refine Ev.walkX (l := PySem.Challenge.rw_meshcore_k31_known_order_types) (m := 63) (kk := depth) (x := "_law_script") rfl (by decide) (by kernel_rfl) hd ?F
    intro w mg fa h Y G hmg0
    obtain ⟨K, KX, c⟩ := Y
    have hmg : mg Lw.en72.name = some (.ref fa) := by
      have e : (HandSHeadRun.topDef (OpenLaw.row PySem.Challenge.rw_meshcore_k31_known_order_types).prog 99).name = Lw.en72.name := by kernel_rfl
      rw [← e]
      exact hmg0
    exact ⟨K, KX, Ev.lawAt (lk := 72) (enL := Lw.en72) (x := "_law_script") KX G hmg c depth fuel rfl rfl Lw.tbl_ok rfl (fun i e he => Lw.bds i e he) Lw.bdL plain⟩
end
set_option Elab.async false
set_option linter.all false
set_option maxRecDepth 100000
set_option maxHeartbeats 4000000
set_option autoImplicit false
/-! Pl0: plain rules about trees. -/
namespace Ev
/-! ### sizes -/
def L (n : Nat) (i : Int) : Prop := i.natAbs < 2 ^ (64 * 2 ^ n)
theorem two_sq (n : Nat) : 2 ^ (64 * 2 ^ (n + 1)) = 2 ^ (64 * 2 ^ n) * 2 ^ (64 * 2 ^ n) := by
  rw [← Nat.pow_add]
  congr 1
  rw [Nat.pow_succ]
  omega
theorem two_le (n : Nat) : 4 ≤ 2 ^ (64 * 2 ^ n) := by
  have h : 2 ≤ 64 * 2 ^ n := by
    have := Nat.one_le_two_pow (n := n)
    omega
  calc 4 = 2 ^ 2 := rfl
    _ ≤ _ := Nat.pow_le_pow_right (by decide) h
theorem L.mul {n : Nat} {i j : Int} (h : L n i) (k : L n j) : L (n + 1) (i * j) := by
  unfold L at *
  rw [Int.natAbs_mul, two_sq]
  exact Nat.mul_lt_mul'' h k
theorem L.up {n : Nat} {i : Int} (h : L n i) : L (n + 1) i := by
  unfold L at *
  rw [two_sq]
  have := two_le n
  exact Nat.lt_of_lt_of_le h (Nat.le_mul_of_pos_right _ (by omega))
theorem L.sum {n : Nat} {i j k : Int} (h : L n i) (g : L n j) (e : k.natAbs ≤ i.natAbs + j.natAbs) : L (n + 1) k := by
  unfold L at *
  rw [two_sq]
  have := two_le n
  have : 2 ^ (64 * 2 ^ n) * 4 ≤ 2 ^ (64 * 2 ^ n) * 2 ^ (64 * 2 ^ n) := Nat.mul_le_mul_left _ this
  omega
theorem L.add {n : Nat} {i j : Int} (h : L n i) (k : L n j) : L (n + 1) (i + j) := h.sum k (by omega)
theorem L.sub {n : Nat} {i j : Int} (h : L n i) (k : L n j) : L (n + 1) (i - j) := h.sum k (by omega)
theorem L.neg {n : Nat} {i : Int} (h : L n i) : L n (-i) := by
  unfold L at *
  rwa [Int.natAbs_neg]
/-- below 2 ^ 64 -/
def S64 (i : Int) : Prop := ∀ n, L n i
theorem S64.of {i : Int} (h : i.natAbs < 2 ^ 64) : S64 i := fun n => by
  unfold L
  refine Nat.lt_of_lt_of_le h (Nat.pow_le_pow_right (by decide) ?_)
  have := Nat.one_le_two_pow (n := n)
  omega
theorem L.lit {n : Nat} (k : Nat) (h : k < 2 ^ 64) : L n (k : Int) := S64.of (by simpa using h) n
theorem mulOk_L {i j : Int} (h : L 12 i) (k : L 12 j) : mulOk i j = true := by
  have e : ∀ {i : Int}, L 12 i → i.natAbs.log2 < 64 * 2 ^ 12 := fun {i} h => by
    by_cases z : i.natAbs = 0
    · rw [z]; decide
    · exact (Nat.log2_lt z).mpr h
  have a := e h
  have b := e k
  unfold mulOk
  exact decide_eq_true (by omega)
theorem mul_L {i j : Int} (h : L 12 i) (k : L 12 j) : binop .mul (.int i) (.int j) = some (.int (i * j)) := by
  show (if mulOk i j = true then some (D.int (i * j)) else none) = _
  rw [if_pos (mulOk_L h k)]
theorem fdiv_L {i j : Int} (h : j ≠ 0) (k : L 7 j) : binop .fdiv (.int i) (.int j) = some (.int (i.fdiv j)) := by
  have e : j.natAbs.log2 < 64 * 2 ^ 7 := (Nat.log2_lt (by omega)).mpr k
  show (if j = 0 then none else if j.natAbs.log2 < 9000 then some (D.int (i.fdiv j)) else none) = _
  rw [if_neg h, if_pos (by omega)]
theorem fmod_L {i j : Int} (h : j ≠ 0) : binop .mod (.int i) (.int j) = some (.int (i.fmod j)) := by
  show (if j = 0 then none else some (D.int (i.fmod j))) = _
  rw [if_neg h]
theorem add_L {i j : Int} : binop .add (.int i) (.int j) = some (.int (i + j)) := rfl
theorem sub_L {i j : Int} : binop .sub (.int i) (.int j) = some (.int (i - j)) := rfl
/-! ### built-ins on values known in form -/
theorem c_lt {i j : Int} : cmpop .lt (.int i) (.int j) = some (decide (i < j)) := rfl
theorem c_le {i j : Int} : cmpop .le (.int i) (.int j) = some (decide (i ≤ j)) := rfl
theorem c_gt {i j : Int} : cmpop .gt (.int i) (.int j) = some (decide (j < i)) := rfl
theorem c_ge {i j : Int} : cmpop .ge (.int i) (.int j) = some (decide (j ≤ i)) := rfl
theorem c_eq {i j : Int} : cmpop .eq (.int i) (.int j) = some (decide (i = j)) := rfl
theorem c_ne {i j : Int} : cmpop .ne (.int i) (.int j) = some (!decide (i = j)) := rfl
theorem p_int {i : Int} : prim .int [.int i] = some (.int i) := rfl
theorem p_abs {i : Int} : prim .abs [.int i] = some (.int (if i < 0 then -i else i)) := rfl
theorem x_fz {xs : List D} {i : Int} : ixop (.fz xs) (.int i) = at_ xs i := rfl
theorem x_lst {xs : List D} {i : Int} : ixop (.lst xs) (.int i) = at_ xs i := rfl
theorem x_tup {xs : List D} {i : Int} : ixop (.tup xs) (.int i) = at_ xs i := rfl
theorem p_isInt {i : Int} : prim .isInt [.int i] = some (.bl true) := rfl
theorem p_isIntB {b : Bool} : prim .isInt [.bl b] = some (.bl true) := rfl
theorem p_isBool {i : Int} : prim .isBool [.int i] = some (.bl false) := rfl
theorem p_isBoolB {b : Bool} : prim .isBool [.bl b] = some (.bl true) := rfl
theorem p_isTup {xs : List D} : prim .isTup [.tup xs] = some (.bl true) := rfl
theorem p_isLst {xs : List D} : prim .isLst [.lst xs] = some (.bl true) := rfl
theorem p_isSeqT {xs : List D} : prim .isSeq [.tup xs] = some (.bl true) := rfl
theorem p_isSeqL {xs : List D} : prim .isSeq [.lst xs] = some (.bl true) := rfl
theorem p_isSeqI {i : Int} : prim .isSeq [.int i] = some (.bl false) := rfl
theorem p_isSeqB {b : Bool} : prim .isSeq [.bl b] = some (.bl false) := rfl
theorem p_isStrI {i : Int} : prim .isStr [.int i] = some (.bl false) := rfl
theorem p_isStrB {b : Bool} : prim .isStr [.bl b] = some (.bl false) := rfl
theorem p_isLstT {xs : List D} : prim .isLst [.tup xs] = some (.bl false) := rfl
theorem c_isNI {i : Int} : cmpop .isN (.int i) .non = some false := rfl
theorem c_isNB {b : Bool} : cmpop .isN (.bl b) .non = some false := rfl
theorem c_eqB {a b : Bool} : cmpop .eq (.bl a) (.bl b) = some (a == b) := rfl
theorem c_neB {a b : Bool} : cmpop .ne (.bl a) (.bl b) = some (!(a == b)) := rfl
/-- what a tree of one def gives by Euclid's steps -/
def gcdI (a b : Int) : Int := ((Nat.gcd a.natAbs b.natAbs : Nat) : Int)
theorem gcd_loop {c : Env → R D} {b : Env → R Fl} (hc : ∀ x y : Int, c [some (.val (.int x)), some (.val (.int y))] = .ok (.bl (!decide (y = 0))) [some (.val (.int x)), some (.val (.int y))])
    (hb : ∀ x y : Int, y ≠ 0 → b [some (.val (.int x)), some (.val (.int y))] = .ok .nx [some (.val (.int y)), some (.val (.int (x.fmod y)))]) :
    ∀ (fuel x y : Nat), y < fuel → loopW c b fuel [some (.val (.int x)), some (.val (.int y))] = .ok .nx [some (.val (.int (Nat.gcd x y : Nat))), some (.val (.int 0))]
  | 0, x, y, h => by omega
  | fuel + 1, x, y, h => by
    unfold loopW
    rw [hc]
    by_cases z : y = 0
    · subst z
      show R.ok Fl.nx _ = _
      rw [Nat.gcd_zero_right]
      rfl
    · have z' : (y : Int) ≠ 0 := by omega
      have e : (!decide ((y : Int) = 0)) = true := by simp [z]
      rw [e]
      show ((b [some (Sl.val (D.int x)), some (Sl.val (D.int y))]).bind _) = _
      rw [hb _ _ z']
      have e2 : (x : Int).fmod y = ((x % y : Nat) : Int) := by
        rw [Int.fmod_eq_emod_of_nonneg _ (by omega)]
        rfl
      rw [e2]
      have lt : x % y < y := Nat.mod_lt _ (by omega)
      show loopW c b fuel _ = _
      rw [gcd_loop hc hb fuel y (x % y) (by omega), Nat.gcd_comm x y, Nat.gcd_rec y x, Nat.gcd_comm (x % y) y]
end Ev
set_option Elab.async false
set_option linter.all false
set_option maxRecDepth 100000
set_option maxHeartbeats 4000000
set_option autoImplicit false
/-! Pl1: what the laws' own defs do: drawing. -/
namespace Ev
def fTaken : Fn := ⟨2, 4, true, (.cons (.ite (.cmp .gt (.oix 0 (.lit (.int 3))) (.lit (.int 0))) (.cons (.asg (.nm 2) (.bin .mod (.prim .int (.cons (.oix 0 (.lit (.int 3))) .nil)) (.var 1))) (.cons (.setix 0 (.lit (.int 3)) (.bin .fdiv (.oix 0 (.lit (.int 3))) (.var 1))) (.cons (.ret (.var 2)) .nil))) .nil) (.cons (.setix 0 (.lit (.int 1)) (.bin .add (.oix 0 (.lit (.int 1))) (.lit (.int 1)))) (.cons (.ite (.cmp .gt (.oix 0 (.lit (.int 1))) (.prim .len (.cons (.oix 0 (.lit (.int 0))) .nil))) (.cons (.setix 0 (.lit (.int 2)) (.bin .mod (.prim .int (.cons (.bin .add (.bin .mul (.oix 0 (.lit (.int 2))) (.lit (.int 48271))) (.lit (.int 11))) .nil)) (.lit (.int 2147483647)))) (.cons (.ret (.bin .mod (.prim .int (.cons (.bin .fdiv (.oix 0 (.lit (.int 2))) (.lit (.int 7))) .nil)) (.var 1))) .nil)) .nil) (.cons (.asg (.nm 3) (.ix (.oix 0 (.lit (.int 0))) (.bin .sub (.oix 0 (.lit (.int 1))) (.lit (.int 1))))) (.cons (.setix 0 (.lit (.int 2)) (.bin .mod (.prim .int (.cons (.bin .add (.bin .add (.bin .mul (.oix 0 (.lit (.int 2))) (.lit (.int 48271))) (.var 3)) (.lit (.int 11))) .nil)) (.lit (.int 2147483647)))) (.cons (.ite (.cmp .ge (.var 3) (.bin .pow (.lit (.int 10)) (.lit (.int 18)))) (.cons (.setix 0 (.lit (.int 3)) (.bin .fdiv (.var 3) (.var 1))) .nil) .nil) (.cons (.ret (.bin .mod (.prim .int (.cons (.var 3) .nil)) (.var 1))) .nil)))))))⟩
/-- the row that draws: the script, how far it is read, two numbers -/
def Row (s : List Int) (cs : List D) : Prop := ∃ i r h : Int, cs = [.fz (s.map D.int), .int i, .int r, .int h] ∧ 0 ≤ i ∧ 0 ≤ r ∧ r < 2147483648 ∧ 0 ≤ h
theorem fmod_rng {i j : Int} (h : 0 < j) : 0 ≤ i.fmod j ∧ i.fmod j < j := ⟨Int.fmod_nonneg_of_pos i h, Int.fmod_lt_of_pos i h⟩
theorem fdiv_nn {i j : Int} (h : 0 ≤ i) (k : 0 < j) : 0 ≤ i.fdiv j := by
  rw [Int.fdiv_eq_ediv_of_nonneg _ (by omega)]
  exact Int.ediv_nonneg h (by omega)
theorem place_nn {n k : Nat} (h : k < n) : place n (Int.ofNat k) = some k := by
  unfold place
  exact if_pos h
theorem taken_ok {C : Ctx} {s : List Int} {cs : List D} {m : Int} (hs : s.length ≤ 63) (hr : Row s cs) (h0 : 0 < m) (hm : m < 4294967296) :
    ∃ v cs', runFn C fTaken [.own cs, .val (.int m)] = .ok (.int v) cs' ∧ Row s cs' ∧ 0 ≤ v ∧ v < m := by
  obtain ⟨i, r, h, rfl, hi, hr0, hr1, hh⟩ := hr
  have hm0 : m ≠ 0 := by omega
  have hmL : L 7 m := S64.of (by omega) 7
  have e0 : ∀ a b c d : D, at_ [a, b, c, d] 0 = some a := fun _ _ _ _ => rfl
  have e1 : ∀ a b c d : D, at_ [a, b, c, d] 1 = some b := fun _ _ _ _ => rfl
  have e2 : ∀ a b c d : D, at_ [a, b, c, d] 2 = some c := fun _ _ _ _ => rfl
  have e3 : ∀ a b c d : D, at_ [a, b, c, d] 3 = some d := fun _ _ _ _ => rfl
  have p1 : ∀ a b c d x : D, setAt [a, b, c, d] (.int 1) x = some [a, x, c, d] := fun _ _ _ _ _ => rfl
  have p2 : ∀ a b c d x : D, setAt [a, b, c, d] (.int 2) x = some [a, b, x, d] := fun _ _ _ _ _ => rfl
  have p3 : ∀ a b c d x : D, setAt [a, b, c, d] (.int 3) x = some [a, b, c, x] := fun _ _ _ _ _ => rfl
  by_cases hp : 0 < h
  · refine ⟨h.fmod m, [.fz (s.map D.int), .int i, .int r, .int (h.fdiv m)], ?_, ⟨i, r, _, rfl, hi, hr0, hr1, fdiv_nn hh h0⟩, fmod_rng h0⟩
    simp only [runFn, fTaken, denS, den, denL, ioOk, getO, Option.isSome, List.map, List.replicate, R.bind, R.of, R.way, D.tr, D.truth, getV, x_lst, x_fz, c_gt, p_int, fmod_L hm0, fdiv_L hm0 hmL, bindT, endOf, List.cons_append, List.nil_append, List.getElem?_cons_zero, List.getElem?_cons_succ, List.set,
      e3, p3, Option.map, Option.bind, hp, decide_true]
  have hp' : decide (0 < h) = false := decide_eq_false hp
  have hl : prim .len [.fz (s.map D.int)] = some (.int (s.length : Int)) := by
    show (if (s.map D.int).length ≤ lim then some (D.int ((s.map D.int).length : Int)) else none) = _
    rw [List.length_map, if_pos (Nat.le_trans hs (by decide))]
  have hm2 : L 12 r := S64.of (by omega) 12
  have hc : L 12 48271 := S64.of (by decide) 12
  have h7 : L 7 7 := S64.of (by decide) 7
  have hb : (2147483647 : Int) ≠ 0 := by decide
  have h77 : (7 : Int) ≠ 0 := by decide
  have q2 := fun x : Int => fmod_rng (i := x) (j := 2147483647) (by decide)
  by_cases hq : (s.length : Int) < i + 1
  · refine ⟨(((r * 48271 + 11).fmod 2147483647).fdiv 7).fmod m, [.fz (s.map D.int), .int (i + 1), .int ((r * 48271 + 11).fmod 2147483647), .int h], ?_, ⟨_, _, h, rfl, by omega, (q2 _).1, by have := (q2 (r * 48271 + 11)).2; omega, hh⟩, fmod_rng h0⟩
    simp only [runFn, fTaken, denS, den, denL, ioOk, getO, Option.isSome, List.map, List.replicate, R.bind, R.of, R.way, D.tr, D.truth, getV, x_lst, c_gt, p_int, hl, mul_L hm2 hc, add_L, fmod_L hm0, fmod_L hb, fdiv_L h77 h7, bindT, endOf, List.cons_append, List.nil_append, List.getElem?_cons_zero, List.getElem?_cons_succ, List.set,
      e0, e1, e2, e3, p1, p2, p3, Option.map, Option.bind, hp', hq, decide_true]
  · have hq' : decide ((s.length : Int) < i + 1) = false := decide_eq_false hq
    have hi2 : i.toNat < s.length := by omega
    have hx : ixop (.fz (s.map D.int)) (.int (i + 1 - 1)) = some (.int s[i.toNat]) := by
      show at_ (s.map D.int) (i + 1 - 1) = _
      have e : i + 1 - 1 = Int.ofNat i.toNat := by
        show _ = (i.toNat : Int)
        omega
      unfold at_
      rw [e, place_nn (by rw [List.length_map]; exact hi2)]
      show (s.map D.int)[i.toNat]? = _
      rw [List.getElem?_map, List.getElem?_eq_getElem hi2]
      rfl
    have hpw : binop .pow (.int 10) (.int 18) = some (.int 1000000000000000000) := by
      show (if (0 : Int) ≤ 18 ∧ (18 : Int) ≤ 1000000 ∧ (10 : Int).natAbs < 2 ^ 64 then some (D.int (10 ^ (18 : Int).toNat)) else none) = _
      rw [if_pos (by decide)]
      rfl
    generalize s[i.toNat] = c at hx
    by_cases hk : (1000000000000000000 : Int) ≤ c
    · refine ⟨c.fmod m, [.fz (s.map D.int), .int (i + 1), .int ((r * 48271 + c + 11).fmod 2147483647), .int (c.fdiv m)], ?_, ⟨_, _, _, rfl, by omega, (q2 _).1, by have := (q2 (r * 48271 + c + 11)).2; omega, fdiv_nn (by omega) h0⟩, fmod_rng h0⟩
      simp only [runFn, fTaken, denS, den, denL, ioOk, getO, Option.isSome, List.map, List.replicate, R.bind, R.of, R.way, D.tr, D.truth, getV, hx, x_lst, c_gt, c_ge, p_int, hl, hpw, mul_L hm2 hc, add_L, sub_L, fmod_L hm0, fmod_L hb, fdiv_L hm0 hmL, bindT, endOf, List.cons_append, List.nil_append, List.getElem?_cons_zero, List.getElem?_cons_succ, List.set,
        e0, e1, e2, e3, p1, p2, p3, Option.map, Option.bind, hp', hq', hk, decide_true]
    · have hk' : decide ((1000000000000000000 : Int) ≤ c) = false := decide_eq_false hk
      refine ⟨c.fmod m, [.fz (s.map D.int), .int (i + 1), .int ((r * 48271 + c + 11).fmod 2147483647), .int h], ?_, ⟨_, _, _, rfl, by omega, (q2 _).1, by have := (q2 (r * 48271 + c + 11)).2; omega, hh⟩, fmod_rng h0⟩
      simp only [runFn, fTaken, denS, den, denL, ioOk, getO, Option.isSome, List.map, List.replicate, R.bind, R.of, R.way, D.tr, D.truth, getV, hx, x_lst, c_gt, c_ge, p_int, hl, hpw, mul_L hm2 hc, add_L, sub_L, fmod_L hm0, fmod_L hb, fdiv_L hm0 hmL, bindT, endOf, List.cons_append, List.nil_append, List.getElem?_cons_zero, List.getElem?_cons_succ, List.set,
        e0, e1, e2, e3, p1, p2, p3, Option.map, Option.bind, hp', hq', hk', decide_true]
end Ev
set_option Elab.async false
set_option linter.all false
set_option maxRecDepth 100000
set_option maxHeartbeats 4000000
set_option autoImplicit false
/-! Pl2: the defs that the laws share: numbers, ratios, points, drawing, likeness. -/
namespace Ev
/-! ### numbers -/
def sgn (i : Int) : Int := b01 (decide (0 < i)) - b01 (decide (i < 0))
theorem sub_bb {a b : Bool} : binop .sub (.bl a) (.bl b) = some (.int (b01 a - b01 b)) := rfl
theorem abs_nat (i : Int) : (if i < 0 then -i else i) = ((i.natAbs : Nat) : Int) := by
  split <;> omega
theorem sgn_cases (i : Int) : (sgn i = 1 ∧ 0 < i) ∨ (sgn i = 0 ∧ i = 0) ∨ (sgn i = -1 ∧ i < 0) := by
  unfold sgn b01
  by_cases h1 : 0 < i
  · have h2 : ¬ i < 0 := by omega
    simp [h1, h2]
  · by_cases h2 : i < 0
    · simp [h1, h2]
    · have : i = 0 := by omega
      simp [this]
theorem sgn_S {i : Int} : S64 (sgn i) := by
  rcases sgn_cases i with ⟨h, _⟩ | ⟨h, _⟩ | ⟨h, _⟩ <;> (rw [h]; exact S64.of (by decide))
theorem sgn_neg (i : Int) : sgn (-i) = 0 - sgn i := by
  rcases sgn_cases i with ⟨h, h'⟩ | ⟨h, h'⟩ | ⟨h, h'⟩ <;> rcases sgn_cases (-i) with ⟨k, k'⟩ | ⟨k, k'⟩ | ⟨k, k'⟩ <;> omega
theorem gcdI_pos {a b : Int} (h : b ≠ 0) : 0 < gcdI a b := by
  unfold gcdI
  have := Nat.gcd_pos_of_pos_right a.natAbs (n := b.natAbs) (by omega)
  omega
theorem gcdI_le {a b : Int} (h : b ≠ 0) : (gcdI a b).natAbs ≤ b.natAbs := by
  unfold gcdI
  have := Nat.gcd_le_right a.natAbs (n := b.natAbs) (by omega)
  omega
theorem gcdI_L {a b : Int} {k : Nat} (h : b ≠ 0) (l : L k b) : L k (gcdI a b) := by
  unfold L at *
  have := gcdI_le (a := a) h
  omega
def red (a b : Int) : Int × Int := (a.fdiv (gcdI a b), b.fdiv (gcdI a b))
def pr (p : Int × Int) : D := .tup [.int p.1, .int p.2]
structure Pt where
  x : Int
  y : Int
  w : Int
  deriving DecidableEq
def Pt.d (p : Pt) : D := .tup [.int p.x, .int p.y, .int p.w]
structure Sz (p : Pt) : Prop where
  x : S64 p.x
  y : S64 p.y
  w : S64 p.w
def low (x y w : Int) : Pt := ⟨x.fdiv (gcdI (gcdI x y) w), y.fdiv (gcdI (gcdI x y) w), w.fdiv (gcdI (gcdI x y) w)⟩
theorem di0 {p : Pt} : ixop p.d (.int 0) = some (.int p.x) := rfl
theorem di1 {p : Pt} : ixop p.d (.int 1) = some (.int p.y) := rfl
theorem di2 {p : Pt} : ixop p.d (.int 2) = some (.int p.w) := rfl
theorem pi0 {p : Int × Int} : ixop (pr p) (.int 0) = some (.int p.1) := rfl
theorem pi1 {p : Int × Int} : ixop (pr p) (.int 1) = some (.int p.2) := rfl
theorem pr_tup {a b : Int} : D.tup [.int a, .int b] = pr (a, b) := rfl
theorem pt_tup {a b c : Int} : D.tup [.int a, .int b, .int c] = Pt.d ⟨a, b, c⟩ := rfl
theorem t0 (a b c : D) : at_ [a, b, c] 0 = some a := rfl
theorem t1 (a b c : D) : at_ [a, b, c] 1 = some b := rfl
theorem t2 (a b c : D) : at_ [a, b, c] 2 = some c := rfl
theorem r0 (a b : D) : at_ [a, b] 0 = some a := rfl
theorem r1 (a b : D) : at_ [a, b] 1 = some b := rfl
theorem lim1 : (0 + 1 ≤ lim) = True := by decide
theorem lim2 : (0 + 1 + 1 ≤ lim) = True := by decide
theorem lim3 : (0 + 1 + 1 + 1 ≤ lim) = True := by decide
theorem lim4 : (0 + 1 + 1 + 1 + 1 ≤ lim) = True := by decide
theorem lim5 : (0 + 1 + 1 + 1 + 1 + 1 ≤ lim) = True := by decide
theorem lim6 : (0 + 1 + 1 + 1 + 1 + 1 + 1 ≤ lim) = True := by decide
theorem p_len3 {a b c : D} : prim .len [.tup [a, b, c]] = some (.int 3) := rfl
theorem c_eqP {a b : Pt} : cmpop .eq a.d b.d = some (decide (a = b)) := by
  have e : (D.sh 60 a.d && D.sh 60 b.d) = true := by simp [Pt.d, D.sh, D.shs]
  show (if (D.sh 60 a.d && D.sh 60 b.d) = true then some (D.eqv a.d b.d) else none) = _
  rw [if_pos e]
  obtain ⟨x, y, w⟩ := a
  obtain ⟨x', y', w'⟩ := b
  simp [Pt.d, D.eqv, D.eqvs]
theorem c_neP {a b : Pt} : cmpop .ne a.d b.d = some (!decide (a = b)) := by
  have e : (D.sh 60 a.d && D.sh 60 b.d) = true := by simp [Pt.d, D.sh, D.shs]
  show (if (D.sh 60 a.d && D.sh 60 b.d) = true then some (!D.eqv a.d b.d) else none) = _
  rw [if_pos e]
  obtain ⟨x, y, w⟩ := a
  obtain ⟨x', y', w'⟩ := b
  simp [Pt.d, D.eqv, D.eqvs]
theorem c_eqR {a b : Int × Int} : cmpop .eq (pr a) (pr b) = some (decide (a = b)) := by
  have e : (D.sh 60 (pr a) && D.sh 60 (pr b)) = true := by simp [pr, D.sh, D.shs]
  show (if (D.sh 60 (pr a) && D.sh 60 (pr b)) = true then some (D.eqv (pr a) (pr b)) else none) = _
  rw [if_pos e]
  obtain ⟨x, y⟩ := a
  obtain ⟨x', y'⟩ := b
  simp [pr, D.eqv, D.eqvs]
theorem c_neR {a b : Int × Int} : cmpop .ne (pr a) (pr b) = some (!decide (a = b)) := by
  have e : (D.sh 60 (pr a) && D.sh 60 (pr b)) = true := by simp [pr, D.sh, D.shs]
  show (if (D.sh 60 (pr a) && D.sh 60 (pr b)) = true then some (!D.eqv (pr a) (pr b)) else none) = _
  rw [if_pos e]
  obtain ⟨x, y⟩ := a
  obtain ⟨x', y'⟩ := b
  simp [pr, D.eqv, D.eqvs]
/-! ### likeness: whatever value, against itself -/
def fAlike (k : Nat) : Fn := ⟨2, 3, false, (.cons (.ite (.isi .isSeq (.var 1)) (.cons (.ite (.or (.not (.isi .isSeq (.var 0))) (.cmp .ne (.isi .isLst (.var 0)) (.isi .isLst (.var 1)))) (.cons (.ret (.lit (.bl false))) .nil) .nil) (.cons (.ite (.cmp .ne (.prim .len (.cons (.var 0) .nil)) (.prim .len (.cons (.var 1) .nil))) (.cons (.ret (.lit (.bl false))) .nil) .nil) (.cons (.ret (.cmp .eq (.lc [2] (.nm 2) (.rng1 (.prim .len (.cons (.var 1) .nil))) (.not (.call k none (.cons (.ix (.var 0) (.var 2)) (.cons (.ix (.var 1) (.var 2)) .nil)))) (.var 2)) (.lst .nil))) .nil))) .nil) (.cons (.ite (.or (.cmp .isN (.var 1) (.lit .non)) (.isi .isStr (.var 1))) (.cons (.ret (.and (.cmp .eq (.var 0) (.var 1)) (.cmp .eq (.isi .isStr (.var 0)) (.isi .isStr (.var 1))))) .nil) .nil) (.cons (.ret (.and (.isi .isInt (.var 0)) (.and (.cmp .eq (.isi .isBool (.var 0)) (.isi .isBool (.var 1))) (.cmp .eq (.var 0) (.var 1))))) .nil)))⟩
mutual
/-- values that likeness looks through: n deep -/
def D.pl : Nat → D → Bool
  | n, .tup ds => decide (ds.length < 1000) && D.pls n ds
  | n, .lst ds => decide (ds.length < 1000) && D.pls n ds
  | _, .str x => x.cps.all (· < 0x110000)
  | _, .fz _ => false
  | _, .emp => false
  | _, .dic _ => false
  | _, _ => true
def D.pls : Nat → List D → Bool
  | _, [] => true
  | 0, _ :: _ => false
  | n + 1, d :: ds => D.pl n d && D.pls (n + 1) ds
end
theorem pls_get : ∀ {n : Nat} {ds : List D} {i : Nat} {d : D}, D.pls (n + 1) ds = true → ds[i]? = some d → D.pl n d = true
  | n, [], i, d, _, e => by simp at e
  | n, x :: ds, 0, d, h, e => by
    unfold D.pls at h
    simp at e
    subst e
    exact (Bool.and_eq_true_iff.mp h).1
  | n, x :: ds, i + 1, d, h, e => by
    unfold D.pls at h
    exact pls_get (Bool.and_eq_true_iff.mp h).2 (by simpa using e)
theorem comp_none {c f : Env → R D} {a b : Option Sl} : ∀ (n : Nat) (lo : Int) (s2 : Option Sl), (∀ i : Int, lo ≤ i → i < lo + n → c [a, b, some (.val (.int i))] = .ok (.bl false) [a, b, some (.val (.int i))]) →
    ∃ s', compL [2] (.nm 2) c f (range_ lo n) [a, b, s2] = .ok [] [a, b, s']
  | 0, lo, s2, h => ⟨s2, rfl⟩
  | n + 1, lo, s2, h => by
    obtain ⟨s', e⟩ := comp_none n (lo + 1) (some (.val (.int lo))) fun i h1 h2 => h i (by omega) (by omega)
    refine ⟨s', ?_⟩
    unfold range_ compL
    simp only [wipes, bindT, List.set]
    rw [h lo (by omega) (by omega)]
    exact e
theorem at_all {ds : List D} {i : Int} (h0 : 0 ≤ i) (h1 : i < ds.length) : ∃ d, at_ ds i = some d ∧ ds[i.toNat]? = some d := by
  have hj : i.toNat < ds.length := by omega
  have e2 : i = Int.ofNat i.toNat := by
    show _ = (i.toNat : Int)
    omega
  have hp : place ds.length i = some i.toNat := by
    have q := place_nn hj
    rw [← e2] at q
    exact q
  refine ⟨ds[i.toNat], ?_, List.getElem?_eq_getElem hj⟩
  unfold at_
  rw [hp]
  exact List.getElem?_eq_getElem hj
def AlkS (C : Ctx) (k n : Nat) : Prop := ∀ d, D.pl n d = true → C.call k [.val d, .val d] = .ok (.bl true) []
theorem c_eqN : cmpop .eq (.lst []) (.lst []) = some true := rfl
theorem sh_str {x : PySem.Str} (h : (x.cps.all (· < 0x110000)) = true) : cmpop .eq (.str x) (.str x) = some true := by
  have e : (D.sh 60 (.str x) && D.sh 60 (.str x)) = true := by
    unfold D.sh
    rw [h]
    rfl
  show (if (D.sh 60 (.str x) && D.sh 60 (.str x)) = true then some (D.eqv (.str x) (.str x)) else none) = _
  rw [if_pos e]
  unfold D.eqv
  rw [decide_eq_true rfl]
theorem alike_seq {C : Ctx} {k n : Nat} {d : D} {ds : List D} (hx : ∀ i, ixop d (.int i) = at_ ds i) (hl : prim .len [d] = some (.int ds.length)) (hq : ∀ d, d ∈ ds → C.call k [.val d, .val d] = .ok (.bl true) []) (hn : ds.length < 1000) :
    den C (.cmp .eq (.lc [2] (.nm 2) (.rng1 (.prim .len (.cons (.var 1) .nil))) (.not (.call k none (.cons (.ix (.var 0) (.var 2)) (.cons (.ix (.var 1) (.var 2)) .nil)))) (.var 2)) (.lst .nil)) [some (.val d), some (.val d), none] = .ok (.bl true) [some (.val d), some (.val d), none] := by
  obtain ⟨s', e⟩ := comp_none (c := den C (.not (.call k none (.cons (.ix (.var 0) (.var 2)) (.cons (.ix (.var 1) (.var 2)) .nil))))) (f := den C (.var 2)) (a := some (.val d)) (b := some (.val d)) ds.length 0 none (fun i h0 h1 => by
    obtain ⟨x, x1, x2⟩ := at_all h0 (by omega : i < ds.length)
    have hc := hq x (List.mem_of_getElem? x2)
    simp (config := { maxDischargeDepth := 20 }) only [bare, getM, runFn, denS, den, denL, List.map, List.replicate, List.length_cons, List.length_nil, R.bind, R.of, R.way, D.tr, D.truth, getV, getO, ioOk, argsOf, afterCall, putIo, Option.isSome, Option.map, Option.bind, bindT, List.set, endOf, List.cons_append, List.nil_append, List.getElem?_cons_zero, List.getElem?_cons_succ, mul_L, add_L, sub_L, L.mul, L.sub, L.add, x_lst, x_tup, x_fz, c_lt, c_le, c_gt, c_ge, c_eq, c_ne, c_eqB, c_neB, c_isNI, c_isNB, p_int, p_abs, p_isInt, p_isIntB, p_isBool, p_isBoolB, p_isTup, p_isLst, p_isLstT, p_isSeqT, p_isSeqL, p_isSeqI, p_isSeqB, p_isStrI, p_isStrB, Nat.reduceAdd, Nat.reduceSub, decide_true, decide_false, Bool.not_true, Bool.not_false, Bool.not_not, hx, x1, hc])
  have hr : rangeOk 0 (ds.length : Int) = true := by
    unfold rangeOk
    exact decide_eq_true (by omega)
  have e1 : denL C (.rng1 (.prim .len (.cons (.var 1) .nil))) [some (.val d), some (.val d), none] = .ok (range_ 0 ds.length) [some (.val d), some (.val d), none] := by
    simp (config := { maxDischargeDepth := 20 }) only [bare, getM, runFn, denS, den, denL, List.map, List.replicate, List.length_cons, List.length_nil, R.bind, R.of, R.way, D.tr, D.truth, getV, getO, ioOk, argsOf, afterCall, putIo, Option.isSome, Option.map, Option.bind, bindT, List.set, endOf, List.cons_append, List.nil_append, List.getElem?_cons_zero, List.getElem?_cons_succ, mul_L, add_L, sub_L, L.mul, L.sub, L.add, x_lst, x_tup, x_fz, c_lt, c_le, c_gt, c_ge, c_eq, c_ne, c_eqB, c_neB, c_isNI, c_isNB, p_int, p_abs, p_isInt, p_isIntB, p_isBool, p_isBoolB, p_isTup, p_isLst, p_isLstT, p_isSeqT, p_isSeqL, p_isSeqI, p_isSeqB, p_isStrI, p_isStrB, Nat.reduceAdd, Nat.reduceSub, decide_true, decide_false, Bool.not_true, Bool.not_false, Bool.not_not, hl, hr, Int.toNat_natCast, ↓reduceIte]
  have e2 : den C (.lc [2] (.nm 2) (.rng1 (.prim .len (.cons (.var 1) .nil))) (.not (.call k none (.cons (.ix (.var 0) (.var 2)) (.cons (.ix (.var 1) (.var 2)) .nil)))) (.var 2)) [some (.val d), some (.val d), none] = .ok (.lst []) [some (.val d), some (.val d), none] := by
    show ((denL C (.rng1 (.prim .len (.cons (.var 1) .nil))) [some (.val d), some (.val d), none]).bind fun ds e => match [2].all fun v => bare e v with
      | true => match compL [2] (.nm 2) (den C (.not (.call k none (.cons (.ix (.var 0) (.var 2)) (.cons (.ix (.var 1) (.var 2)) .nil))))) (den C (.var 2)) ds e with
        | .ok ys e1 => if ys.length ≤ lim then R.ok (D.lst ys) (backs e e1 [2]) else .no
        | _ => .no
      | false => .no) = _
    rw [e1]
    show (match compL [2] (.nm 2) (den C (.not (.call k none (.cons (.ix (.var 0) (.var 2)) (.cons (.ix (.var 1) (.var 2)) .nil))))) (den C (.var 2)) (range_ 0 ds.length) [some (.val d), some (.val d), none] with
        | .ok ys e1 => if ys.length ≤ lim then R.ok (D.lst ys) (backs [some (.val d), some (.val d), none] e1 [2]) else .no
        | _ => .no) = _
    rw [e]
    rfl
  show ((den C (.lc [2] (.nm 2) (.rng1 (.prim .len (.cons (.var 1) .nil))) (.not (.call k none (.cons (.ix (.var 0) (.var 2)) (.cons (.ix (.var 1) (.var 2)) .nil)))) (.var 2)) [some (.val d), some (.val d), none]).bind _) = _
  rw [e2]
  rfl
theorem al_non {C : Ctx} {k : Nat} : runFn C (fAlike k) [.val .non, .val .non] = .ok (.bl true) [] := rfl
theorem al_bl {C : Ctx} {k : Nat} {b : Bool} : runFn C (fAlike k) [.val (.bl b), .val (.bl b)] = .ok (.bl true) [] := by
  cases b <;> rfl
theorem al_int {C : Ctx} {k : Nat} {i : Int} : runFn C (fAlike k) [.val (.int i), .val (.int i)] = .ok (.bl true) [] := by
  have h : cmpop .eq (.int i) (.int i) = some true := by rw [c_eq]; simp
  simp only [runFn, fAlike, denS, den, denL, List.map, List.replicate, R.bind, R.of, R.way, D.tr, D.truth, getV, p_isSeqI, p_isStrI, p_isInt, p_isBool, c_isNI, c_eqB, h, Option.map, endOf, List.cons_append, List.nil_append, List.getElem?_cons_zero, List.getElem?_cons_succ]
  rfl
theorem al_str {C : Ctx} {k : Nat} {x : PySem.Str} (hx : (x.cps.all (· < 0x110000)) = true) : runFn C (fAlike k) [.val (.str x), .val (.str x)] = .ok (.bl true) [] := by
  have i1 : prim .isSeq [.str x] = some (.bl false) := rfl
  have i2 : prim .isStr [.str x] = some (.bl true) := rfl
  have i3 : cmpop .isN (.str x) .non = some false := rfl
  simp only [runFn, fAlike, denS, den, denL, List.map, List.replicate, R.bind, R.of, R.way, D.tr, D.truth, getV, i1, i2, i3, c_eqB, sh_str hx, Option.map, endOf, List.cons_append, List.nil_append, List.getElem?_cons_zero, List.getElem?_cons_succ]
  rfl
theorem s_ite {C : Ctx} {c : Ex} {a b r : Sm} {e : Env} {v : Bool} (h : den C c e = .ok (.bl v) e) : denS C (.cons (.ite c a b) r) e = (if v = true then denS C a e else denS C b e).bind fun f e => match f with
    | .nx => denS C r e
    | f => .ok f e := by
  simp only [denS]
  rw [h]
  cases v <;> rfl
theorem s_ret {C : Ctx} {x : Ex} {r : Sm} {e e' : Env} {d : D} (h : den C x e = .ok d e') : denS C (.cons (.ret x) r) e = .ok (.rt d) e' := by
  simp only [denS]
  rw [h]
  rfl
theorem s_nil {C : Ctx} {e : Env} : denS C .nil e = .ok .nx e := rfl
theorem al_run {C : Ctx} {k : Nat} {d : D} {n : Int} (l0 : Bool) (h1 : prim .isSeq [d] = some (.bl true)) (h2 : prim .isLst [d] = some (.bl l0)) (hl : prim .len [d] = some (.int n))
    (q : den C (.cmp .eq (.lc [2] (.nm 2) (.rng1 (.prim .len (.cons (.var 1) .nil))) (.not (.call k none (.cons (.ix (.var 0) (.var 2)) (.cons (.ix (.var 1) (.var 2)) .nil)))) (.var 2)) (.lst .nil)) [some (.val d), some (.val d), none] = .ok (.bl true) [some (.val d), some (.val d), none]) :
    runFn C (fAlike k) [.val d, .val d] = .ok (.bl true) [] := by
  have c0 : cmpop .ne (.int n) (.int n) = some false := by rw [c_ne]; simp
  have b0 : cmpop .ne (.bl l0) (.bl l0) = some false := by rw [c_neB]; cases l0 <;> rfl
  have e1 : den C (.isi .isSeq (.var 1)) [some (.val d), some (.val d), none] = .ok (.bl true) [some (.val d), some (.val d), none] := by simp (config := { maxDischargeDepth := 20 }) only [bare, getM, runFn, denS, den, denL, List.map, List.replicate, List.length_cons, List.length_nil, R.bind, R.of, R.way, D.tr, D.truth, getV, getO, ioOk, argsOf, afterCall, putIo, Option.isSome, Option.map, Option.bind, bindT, List.set, endOf, List.cons_append, List.nil_append, List.getElem?_cons_zero, List.getElem?_cons_succ, mul_L, add_L, sub_L, L.mul, L.sub, L.add, x_lst, x_tup, x_fz, c_lt, c_le, c_gt, c_ge, c_eq, c_ne, c_eqB, c_neB, c_isNI, c_isNB, p_int, p_abs, p_isInt, p_isIntB, p_isBool, p_isBoolB, p_isTup, p_isLst, p_isLstT, p_isSeqT, p_isSeqL, p_isSeqI, p_isSeqB, p_isStrI, p_isStrB, Nat.reduceAdd, Nat.reduceSub, decide_true, decide_false, Bool.not_true, Bool.not_false, Bool.not_not, h1]
  have e2 : den C (.or (.not (.isi .isSeq (.var 0))) (.cmp .ne (.isi .isLst (.var 0)) (.isi .isLst (.var 1)))) [some (.val d), some (.val d), none] = .ok (.bl false) [some (.val d), some (.val d), none] := by simp (config := { maxDischargeDepth := 20 }) only [bare, getM, runFn, denS, den, denL, List.map, List.replicate, List.length_cons, List.length_nil, R.bind, R.of, R.way, D.tr, D.truth, getV, getO, ioOk, argsOf, afterCall, putIo, Option.isSome, Option.map, Option.bind, bindT, List.set, endOf, List.cons_append, List.nil_append, List.getElem?_cons_zero, List.getElem?_cons_succ, mul_L, add_L, sub_L, L.mul, L.sub, L.add, x_lst, x_tup, x_fz, c_lt, c_le, c_gt, c_ge, c_eq, c_ne, c_eqB, c_neB, c_isNI, c_isNB, p_int, p_abs, p_isInt, p_isIntB, p_isBool, p_isBoolB, p_isTup, p_isLst, p_isLstT, p_isSeqT, p_isSeqL, p_isSeqI, p_isSeqB, p_isStrI, p_isStrB, Nat.reduceAdd, Nat.reduceSub, decide_true, decide_false, Bool.not_true, Bool.not_false, Bool.not_not, h1, h2, b0]
  have e3 : den C (.cmp .ne (.prim .len (.cons (.var 0) .nil)) (.prim .len (.cons (.var 1) .nil))) [some (.val d), some (.val d), none] = .ok (.bl false) [some (.val d), some (.val d), none] := by simp (config := { maxDischargeDepth := 20 }) only [bare, getM, runFn, denS, den, denL, List.map, List.replicate, List.length_cons, List.length_nil, R.bind, R.of, R.way, D.tr, D.truth, getV, getO, ioOk, argsOf, afterCall, putIo, Option.isSome, Option.map, Option.bind, bindT, List.set, endOf, List.cons_append, List.nil_append, List.getElem?_cons_zero, List.getElem?_cons_succ, mul_L, add_L, sub_L, L.mul, L.sub, L.add, x_lst, x_tup, x_fz, c_lt, c_le, c_gt, c_ge, c_eq, c_ne, c_eqB, c_neB, c_isNI, c_isNB, p_int, p_abs, p_isInt, p_isIntB, p_isBool, p_isBoolB, p_isTup, p_isLst, p_isLstT, p_isSeqT, p_isSeqL, p_isSeqI, p_isSeqB, p_isStrI, p_isStrB, Nat.reduceAdd, Nat.reduceSub, decide_true, decide_false, Bool.not_true, Bool.not_false, Bool.not_not, hl, c0]
  unfold runFn
  show (match denS C (fAlike k).body [some (.val d), some (.val d), none] with
    | R.ok Fl.nx e => endOf false .non e
    | R.ok (Fl.rt d) e => endOf false d e
    | R.ex x _ => O.ex x
    | _ => .no) = _
  unfold fAlike
  rw [s_ite e1, if_pos rfl, s_ite e2, if_neg Bool.false_ne_true, s_nil]
  show (match R.bind (denS C (.cons (.ite _ _ _) _) _) _ with
    | R.ok Fl.nx e => endOf false .non e
    | R.ok (Fl.rt d) e => endOf false d e
    | R.ex x _ => O.ex x
    | _ => .no) = _
  rw [s_ite e3, if_neg Bool.false_ne_true, s_nil]
  show (match R.bind (denS C (.cons (.ret _) _) _) _ with
    | R.ok Fl.nx e => endOf false .non e
    | R.ok (Fl.rt d) e => endOf false d e
    | R.ex x _ => O.ex x
    | _ => .no) = _
  rw [s_ret q]
  rfl
theorem al_tup {C : Ctx} {k : Nat} {ds : List D} (h1 : ds.length < 1000) (hq : ∀ d, d ∈ ds → C.call k [.val d, .val d] = .ok (.bl true) []) : runFn C (fAlike k) [.val (.tup ds), .val (.tup ds)] = .ok (.bl true) [] := by
  have hl : prim .len [.tup ds] = some (.int ds.length) := if_pos (Nat.le_trans (Nat.le_of_lt h1) (by decide))
  exact al_run false rfl rfl hl (alike_seq (n := 0) (fun i => rfl) hl hq h1)
theorem al_lst {C : Ctx} {k : Nat} {ds : List D} (h1 : ds.length < 1000) (hq : ∀ d, d ∈ ds → C.call k [.val d, .val d] = .ok (.bl true) []) : runFn C (fAlike k) [.val (.lst ds), .val (.lst ds)] = .ok (.bl true) [] := by
  have hl : prim .len [.lst ds] = some (.int ds.length) := if_pos (Nat.le_trans (Nat.le_of_lt h1) (by decide))
  exact al_run true rfl rfl hl (alike_seq (n := 0) (fun i => rfl) hl hq h1)
theorem pl_tup {n : Nat} {ds : List D} (h : D.pl n (.tup ds) = true) : ds.length < 1000 ∧ D.pls n ds = true := by
  unfold D.pl at h
  obtain ⟨h1, h2⟩ := Bool.and_eq_true_iff.mp h
  exact ⟨of_decide_eq_true h1, h2⟩
theorem pl_lst {n : Nat} {ds : List D} (h : D.pl n (.lst ds) = true) : ds.length < 1000 ∧ D.pls n ds = true := by
  unfold D.pl at h
  obtain ⟨h1, h2⟩ := Bool.and_eq_true_iff.mp h
  exact ⟨of_decide_eq_true h1, h2⟩
theorem run_alike {C : Ctx} {k n : Nat} {d : D} (h : ∀ m, n = m + 1 → AlkS C k m) (hd : D.pl n d = true) : runFn C (fAlike k) [.val d, .val d] = .ok (.bl true) [] := by
  have items : ∀ {ds : List D}, D.pls n ds = true → ∀ d, d ∈ ds → C.call k [.val d, .val d] = .ok (.bl true) [] := fun {ds} hp d hm => by
    obtain ⟨i, hi⟩ := List.mem_iff_getElem?.mp hm
    cases n with
    | zero =>
      cases ds with
      | nil => simp at hi
      | cons x r => unfold D.pls at hp; cases hp
    | succ m => exact h m rfl d (pls_get hp hi)
  cases d with
  | emp => exact absurd hd (by cases n <;> simp [D.pl])
  | dic _ => exact absurd hd (by cases n <;> simp [D.pl])
  | non => exact al_non
  | bl b => exact al_bl
  | int i => exact al_int
  | str x => exact al_str (by unfold D.pl at hd; exact hd)
  | tup ds => exact al_tup (pl_tup hd).1 (items (pl_tup hd).2)
  | lst ds => exact al_lst (pl_lst hd).1 (items (pl_lst hd).2)
  | fz ds => unfold D.pl at hd; cases hd
end Ev
set_option Elab.async false
set_option linter.all false
set_option maxRecDepth 100000
set_option maxHeartbeats 4000000
set_option autoImplicit false
/-! Pl3: the shared defs, each by what its calls do. -/
namespace Ev
/-! ### what calls do -/
def GcdS (C : Ctx) (g : Nat) : Prop := ∀ a b : Int, b.natAbs < C.fuel → C.call g [.val (.int a), .val (.int b)] = .ok (.int (gcdI a b)) []
def RatS (C : Ctx) (r : Nat) : Prop := ∀ a b : Int, 0 < b → L 7 b → b.natAbs < C.fuel → C.call r [.val (.int a), .val (.int b)] = .ok (pr (red a b)) []
def LowS (C : Ctx) (l : Nat) : Prop := ∀ x y w : Int, 0 < w → L 7 w → y.natAbs < C.fuel → w.natAbs < C.fuel → C.call l [.val (.int x), .val (.int y), .val (.int w)] = .ok (low x y w).d []
def SgnS (C : Ctx) (f : Nat) : Prop := ∀ i : Int, C.call f [.val (.int i)] = .ok (.int (sgn i)) []
def InS (C : Ctx) (f : Nat) : Prop := ∀ v l m : Int, l ≤ v → v ≤ m → C.call f [.val (.int v), .val (.int l), .val (.int m)] = .ok (.bl true) []
def TakS (C : Ctx) (t : Nat) : Prop := ∀ (s : List Int) (cs : List D) (m : Int), s.length ≤ 63 → Row s cs → 0 < m → m < 4294967296 → ∃ v cs', C.call t [.own cs, .val (.int m)] = .ok (.int v) cs' ∧ Row s cs' ∧ 0 ≤ v ∧ v < m
def SigS (C : Ctx) (f : Nat) : Prop := ∀ (s : List Int) (cs : List D) (m : Int), s.length ≤ 63 → Row s cs → 0 ≤ m → m < 1000000000 → ∃ v cs', C.call f [.own cs, .val (.int m)] = .ok (.int v) cs' ∧ Row s cs' ∧ -m ≤ v ∧ v ≤ m
def PicS (C : Ctx) (f : Nat) : Prop := ∀ (s : List Int) (cs : List D) (xs : List D), s.length ≤ 63 → Row s cs → 0 < xs.length → xs.length < 1000 → ∃ (j : Nat) (h : j < xs.length) (cs' : List D), C.call f [.own cs, .val (.lst xs)] = .ok xs[j] cs' ∧ Row s cs'
/-! ### the defs -/
def fGcd : Fn := ⟨2, 2, false, (.cons (.par2 0 1 (.prim .abs (.cons (.var 0) .nil)) (.prim .abs (.cons (.var 1) .nil))) (.cons (.whl (.cmp .ne (.var 1) (.lit (.int 0))) (.cons (.par2 0 1 (.var 1) (.bin .mod (.var 0) (.var 1))) .nil)) (.cons (.ret (.var 0)) .nil)))⟩
def fGcdL : Fn := ⟨2, 2, false, (.cons (.par2 0 1 (.prim .abs (.cons (.var 0) .nil)) (.prim .abs (.cons (.var 1) .nil))) (.cons (.whl (.cmp .ne (.var 1) (.lit (.int 0))) (.cons (.par2 0 1 (.var 1) (.bin .mod (.prim .int (.cons (.var 0) .nil)) (.var 1))) .nil)) (.cons (.ret (.var 0)) .nil)))⟩
def fReduced (g : Nat) : Fn := ⟨2, 3, false, (.cons (.asg (.nm 2) (.call g none (.cons (.var 0) (.cons (.var 1) .nil)))) (.cons (.ite (.cmp .lt (.var 1) (.lit (.int 0))) (.cons (.asg (.nm 2) (.neg (.var 2))) .nil) .nil) (.cons (.ret (.tup (.cons (.bin .fdiv (.var 0) (.var 2)) (.cons (.bin .fdiv (.var 1) (.var 2)) .nil)))) .nil)))⟩
def fRatio (g : Nat) : Fn := ⟨2, 3, false, (.cons (.asg (.nm 2) (.call g none (.cons (.var 0) (.cons (.var 1) .nil)))) (.cons (.asg (.nm 2) (.ite (.cmp .lt (.var 1) (.lit (.int 0))) (.bin .sub (.lit (.int 0)) (.var 2)) (.var 2))) (.cons (.ret (.tup (.cons (.bin .fdiv (.var 0) (.var 2)) (.cons (.bin .fdiv (.var 1) (.var 2)) .nil)))) .nil)))⟩
def fSign : Fn := ⟨1, 1, false, (.cons (.ret (.bin .sub (.cmp .gt (.var 0) (.lit (.int 0))) (.cmp .lt (.var 0) (.lit (.int 0))))) .nil)⟩
def fSignL : Fn := ⟨1, 1, false, (.cons (.ret (.ite (.cmp .gt (.var 0) (.lit (.int 0))) (.lit (.int 1)) (.ite (.cmp .lt (.var 0) (.lit (.int 0))) (.neg (.lit (.int 1))) (.lit (.int 0))))) .nil)⟩
def fLow (g : Nat) : Fn := ⟨3, 4, false, (.cons (.asg (.nm 3) (.call g none (.cons (.call g none (.cons (.var 0) (.cons (.var 1) .nil))) (.cons (.var 2) .nil)))) (.cons (.ite (.cmp .lt (.var 2) (.lit (.int 0))) (.cons (.asg (.nm 3) (.neg (.var 3))) .nil) .nil) (.cons (.ret (.tup (.cons (.bin .fdiv (.var 0) (.var 3)) (.cons (.bin .fdiv (.var 1) (.var 3)) (.cons (.bin .fdiv (.var 2) (.var 3)) .nil))))) .nil)))⟩
def fLowL (g : Nat) : Fn := ⟨3, 4, false, (.cons (.asg (.nm 3) (.call g none (.cons (.call g none (.cons (.var 0) (.cons (.var 1) .nil))) (.cons (.var 2) .nil)))) (.cons (.asg (.nm 3) (.ite (.cmp .lt (.var 2) (.lit (.int 0))) (.bin .sub (.lit (.int 0)) (.var 3)) (.var 3))) (.cons (.ret (.tup (.cons (.bin .fdiv (.var 0) (.var 3)) (.cons (.bin .fdiv (.var 1) (.var 3)) (.cons (.bin .fdiv (.var 2) (.var 3)) .nil))))) .nil)))⟩
def fIn : Fn := ⟨3, 3, false, (.cons (.ret (.and (.isi .isInt (.var 0)) (.and (.not (.isi .isBool (.var 0))) (.cmp2 .le .le (.var 1) (.var 0) (.var 2))))) .nil)⟩
def fSigned (t : Nat) : Fn := ⟨2, 2, true, (.cons (.ret (.bin .sub (.call t (some 0) (.cons (.bin .add (.bin .mul (.lit (.int 2)) (.var 1)) (.lit (.int 1))) .nil)) (.var 1))) .nil)⟩
def fPick (t : Nat) : Fn := ⟨2, 2, true, (.cons (.ret (.ix (.var 1) (.call t (some 0) (.cons (.prim .len (.cons (.var 1) .nil)) .nil)))) .nil)⟩
/-! ### what they do -/
variable {C : Ctx} {g t : Nat}
theorem run_sign {i : Int} : runFn C fSign [.val (.int i)] = .ok (.int (sgn i)) [] := by
  simp (config := { maxDischargeDepth := 20 }) only [bare, getM, runFn, denS, den, denL, List.map, List.replicate, List.length_cons, List.length_nil, R.bind, R.of, R.way, D.tr, D.truth, getV, getO, ioOk, argsOf, afterCall, putIo, Option.isSome, Option.map, Option.bind, bindT, List.set, endOf, List.cons_append, List.nil_append, List.getElem?_cons_zero, List.getElem?_cons_succ, mul_L, add_L, sub_L, L.mul, L.sub, L.add, x_lst, x_tup, x_fz, c_lt, c_le, c_gt, c_ge, c_eq, c_ne, c_eqB, c_neB, c_isNI, c_isNB, p_int, p_abs, p_isInt, p_isIntB, p_isBool, p_isBoolB, p_isTup, p_isLst, p_isLstT, p_isSeqT, p_isSeqL, p_isSeqI, p_isSeqB, p_isStrI, p_isStrB, Nat.reduceAdd, Nat.reduceSub, decide_true, decide_false, Bool.not_true, Bool.not_false, Bool.not_not, fSign, sub_bb, sgn]
theorem run_signL {i : Int} : runFn C fSignL [.val (.int i)] = .ok (.int (sgn i)) [] := by
  by_cases h1 : 0 < i
  · have h2 : ¬ i < 0 := by omega
    simp (config := { maxDischargeDepth := 20 }) only [bare, getM, runFn, denS, den, denL, List.map, List.replicate, List.length_cons, List.length_nil, R.bind, R.of, R.way, D.tr, D.truth, getV, getO, ioOk, argsOf, afterCall, putIo, Option.isSome, Option.map, Option.bind, bindT, List.set, endOf, List.cons_append, List.nil_append, List.getElem?_cons_zero, List.getElem?_cons_succ, mul_L, add_L, sub_L, L.mul, L.sub, L.add, x_lst, x_tup, x_fz, c_lt, c_le, c_gt, c_ge, c_eq, c_ne, c_eqB, c_neB, c_isNI, c_isNB, p_int, p_abs, p_isInt, p_isIntB, p_isBool, p_isBoolB, p_isTup, p_isLst, p_isLstT, p_isSeqT, p_isSeqL, p_isSeqI, p_isSeqB, p_isStrI, p_isStrB, Nat.reduceAdd, Nat.reduceSub, decide_true, decide_false, Bool.not_true, Bool.not_false, Bool.not_not, fSignL, h1, h2, sgn]
    rfl
  · by_cases h2 : i < 0
    · simp (config := { maxDischargeDepth := 20 }) only [bare, getM, runFn, denS, den, denL, List.map, List.replicate, List.length_cons, List.length_nil, R.bind, R.of, R.way, D.tr, D.truth, getV, getO, ioOk, argsOf, afterCall, putIo, Option.isSome, Option.map, Option.bind, bindT, List.set, endOf, List.cons_append, List.nil_append, List.getElem?_cons_zero, List.getElem?_cons_succ, mul_L, add_L, sub_L, L.mul, L.sub, L.add, x_lst, x_tup, x_fz, c_lt, c_le, c_gt, c_ge, c_eq, c_ne, c_eqB, c_neB, c_isNI, c_isNB, p_int, p_abs, p_isInt, p_isIntB, p_isBool, p_isBoolB, p_isTup, p_isLst, p_isLstT, p_isSeqT, p_isSeqL, p_isSeqI, p_isSeqB, p_isStrI, p_isStrB, Nat.reduceAdd, Nat.reduceSub, decide_true, decide_false, Bool.not_true, Bool.not_false, Bool.not_not, fSignL, h1, h2, sgn]
      rfl
    · simp (config := { maxDischargeDepth := 20 }) only [bare, getM, runFn, denS, den, denL, List.map, List.replicate, List.length_cons, List.length_nil, R.bind, R.of, R.way, D.tr, D.truth, getV, getO, ioOk, argsOf, afterCall, putIo, Option.isSome, Option.map, Option.bind, bindT, List.set, endOf, List.cons_append, List.nil_append, List.getElem?_cons_zero, List.getElem?_cons_succ, mul_L, add_L, sub_L, L.mul, L.sub, L.add, x_lst, x_tup, x_fz, c_lt, c_le, c_gt, c_ge, c_eq, c_ne, c_eqB, c_neB, c_isNI, c_isNB, p_int, p_abs, p_isInt, p_isIntB, p_isBool, p_isBoolB, p_isTup, p_isLst, p_isLstT, p_isSeqT, p_isSeqL, p_isSeqI, p_isSeqB, p_isStrI, p_isStrB, Nat.reduceAdd, Nat.reduceSub, decide_true, decide_false, Bool.not_true, Bool.not_false, Bool.not_not, fSignL, h1, h2, sgn]
      rfl
theorem run_gcd {a b : Int} (hf : b.natAbs < C.fuel) : runFn C fGcd [.val (.int a), .val (.int b)] = .ok (.int (gcdI a b)) [] := by
  have q := gcd_loop (c := den C (.cmp .ne (.var 1) (.lit (.int 0)))) (b := denS C (.cons (.par2 0 1 (.var 1) (.bin .mod (.var 0) (.var 1))) .nil))
    (fun x y => by simp (config := { maxDischargeDepth := 20 }) only [bare, getM, runFn, denS, den, denL, List.map, List.replicate, List.length_cons, List.length_nil, R.bind, R.of, R.way, D.tr, D.truth, getV, getO, ioOk, argsOf, afterCall, putIo, Option.isSome, Option.map, Option.bind, bindT, List.set, endOf, List.cons_append, List.nil_append, List.getElem?_cons_zero, List.getElem?_cons_succ, mul_L, add_L, sub_L, L.mul, L.sub, L.add, x_lst, x_tup, x_fz, c_lt, c_le, c_gt, c_ge, c_eq, c_ne, c_eqB, c_neB, c_isNI, c_isNB, p_int, p_abs, p_isInt, p_isIntB, p_isBool, p_isBoolB, p_isTup, p_isLst, p_isLstT, p_isSeqT, p_isSeqL, p_isSeqI, p_isSeqB, p_isStrI, p_isStrB, Nat.reduceAdd, Nat.reduceSub, decide_true, decide_false, Bool.not_true, Bool.not_false, Bool.not_not]) (fun x y h => by simp (config := { maxDischargeDepth := 20 }) only [bare, getM, runFn, denS, den, denL, List.map, List.replicate, List.length_cons, List.length_nil, R.bind, R.of, R.way, D.tr, D.truth, getV, getO, ioOk, argsOf, afterCall, putIo, Option.isSome, Option.map, Option.bind, bindT, List.set, endOf, List.cons_append, List.nil_append, List.getElem?_cons_zero, List.getElem?_cons_succ, mul_L, add_L, sub_L, L.mul, L.sub, L.add, x_lst, x_tup, x_fz, c_lt, c_le, c_gt, c_ge, c_eq, c_ne, c_eqB, c_neB, c_isNI, c_isNB, p_int, p_abs, p_isInt, p_isIntB, p_isBool, p_isBoolB, p_isTup, p_isLst, p_isLstT, p_isSeqT, p_isSeqL, p_isSeqI, p_isSeqB, p_isStrI, p_isStrB, Nat.reduceAdd, Nat.reduceSub, decide_true, decide_false, Bool.not_true, Bool.not_false, Bool.not_not, fmod_L h]) C.fuel a.natAbs b.natAbs hf
  simp (config := { maxDischargeDepth := 20 }) only [bare, getM, runFn, denS, den, denL, List.map, List.replicate, List.length_cons, List.length_nil, R.bind, R.of, R.way, D.tr, D.truth, getV, getO, ioOk, argsOf, afterCall, putIo, Option.isSome, Option.map, Option.bind, bindT, List.set, endOf, List.cons_append, List.nil_append, List.getElem?_cons_zero, List.getElem?_cons_succ, mul_L, add_L, sub_L, L.mul, L.sub, L.add, x_lst, x_tup, x_fz, c_lt, c_le, c_gt, c_ge, c_eq, c_ne, c_eqB, c_neB, c_isNI, c_isNB, p_int, p_abs, p_isInt, p_isIntB, p_isBool, p_isBoolB, p_isTup, p_isLst, p_isLstT, p_isSeqT, p_isSeqL, p_isSeqI, p_isSeqB, p_isStrI, p_isStrB, Nat.reduceAdd, Nat.reduceSub, decide_true, decide_false, Bool.not_true, Bool.not_false, Bool.not_not] at q
  simp (config := { maxDischargeDepth := 20 }) only [bare, getM, runFn, denS, den, denL, List.map, List.replicate, List.length_cons, List.length_nil, R.bind, R.of, R.way, D.tr, D.truth, getV, getO, ioOk, argsOf, afterCall, putIo, Option.isSome, Option.map, Option.bind, bindT, List.set, endOf, List.cons_append, List.nil_append, List.getElem?_cons_zero, List.getElem?_cons_succ, mul_L, add_L, sub_L, L.mul, L.sub, L.add, x_lst, x_tup, x_fz, c_lt, c_le, c_gt, c_ge, c_eq, c_ne, c_eqB, c_neB, c_isNI, c_isNB, p_int, p_abs, p_isInt, p_isIntB, p_isBool, p_isBoolB, p_isTup, p_isLst, p_isLstT, p_isSeqT, p_isSeqL, p_isSeqI, p_isSeqB, p_isStrI, p_isStrB, Nat.reduceAdd, Nat.reduceSub, decide_true, decide_false, Bool.not_true, Bool.not_false, Bool.not_not, fGcd, abs_nat, gcdI, q]
theorem run_gcdL {a b : Int} (hf : b.natAbs < C.fuel) : runFn C fGcdL [.val (.int a), .val (.int b)] = .ok (.int (gcdI a b)) [] := by
  have q := gcd_loop (c := den C (.cmp .ne (.var 1) (.lit (.int 0)))) (b := denS C (.cons (.par2 0 1 (.var 1) (.bin .mod (.prim .int (.cons (.var 0) .nil)) (.var 1))) .nil))
    (fun x y => by simp (config := { maxDischargeDepth := 20 }) only [bare, getM, runFn, denS, den, denL, List.map, List.replicate, List.length_cons, List.length_nil, R.bind, R.of, R.way, D.tr, D.truth, getV, getO, ioOk, argsOf, afterCall, putIo, Option.isSome, Option.map, Option.bind, bindT, List.set, endOf, List.cons_append, List.nil_append, List.getElem?_cons_zero, List.getElem?_cons_succ, mul_L, add_L, sub_L, L.mul, L.sub, L.add, x_lst, x_tup, x_fz, c_lt, c_le, c_gt, c_ge, c_eq, c_ne, c_eqB, c_neB, c_isNI, c_isNB, p_int, p_abs, p_isInt, p_isIntB, p_isBool, p_isBoolB, p_isTup, p_isLst, p_isLstT, p_isSeqT, p_isSeqL, p_isSeqI, p_isSeqB, p_isStrI, p_isStrB, Nat.reduceAdd, Nat.reduceSub, decide_true, decide_false, Bool.not_true, Bool.not_false, Bool.not_not]) (fun x y h => by simp (config := { maxDischargeDepth := 20 }) only [bare, getM, runFn, denS, den, denL, List.map, List.replicate, List.length_cons, List.length_nil, R.bind, R.of, R.way, D.tr, D.truth, getV, getO, ioOk, argsOf, afterCall, putIo, Option.isSome, Option.map, Option.bind, bindT, List.set, endOf, List.cons_append, List.nil_append, List.getElem?_cons_zero, List.getElem?_cons_succ, mul_L, add_L, sub_L, L.mul, L.sub, L.add, x_lst, x_tup, x_fz, c_lt, c_le, c_gt, c_ge, c_eq, c_ne, c_eqB, c_neB, c_isNI, c_isNB, p_int, p_abs, p_isInt, p_isIntB, p_isBool, p_isBoolB, p_isTup, p_isLst, p_isLstT, p_isSeqT, p_isSeqL, p_isSeqI, p_isSeqB, p_isStrI, p_isStrB, Nat.reduceAdd, Nat.reduceSub, decide_true, decide_false, Bool.not_true, Bool.not_false, Bool.not_not, fmod_L h]) C.fuel a.natAbs b.natAbs hf
  simp (config := { maxDischargeDepth := 20 }) only [bare, getM, runFn, denS, den, denL, List.map, List.replicate, List.length_cons, List.length_nil, R.bind, R.of, R.way, D.tr, D.truth, getV, getO, ioOk, argsOf, afterCall, putIo, Option.isSome, Option.map, Option.bind, bindT, List.set, endOf, List.cons_append, List.nil_append, List.getElem?_cons_zero, List.getElem?_cons_succ, mul_L, add_L, sub_L, L.mul, L.sub, L.add, x_lst, x_tup, x_fz, c_lt, c_le, c_gt, c_ge, c_eq, c_ne, c_eqB, c_neB, c_isNI, c_isNB, p_int, p_abs, p_isInt, p_isIntB, p_isBool, p_isBoolB, p_isTup, p_isLst, p_isLstT, p_isSeqT, p_isSeqL, p_isSeqI, p_isSeqB, p_isStrI, p_isStrB, Nat.reduceAdd, Nat.reduceSub, decide_true, decide_false, Bool.not_true, Bool.not_false, Bool.not_not] at q
  simp (config := { maxDischargeDepth := 20 }) only [bare, getM, runFn, denS, den, denL, List.map, List.replicate, List.length_cons, List.length_nil, R.bind, R.of, R.way, D.tr, D.truth, getV, getO, ioOk, argsOf, afterCall, putIo, Option.isSome, Option.map, Option.bind, bindT, List.set, endOf, List.cons_append, List.nil_append, List.getElem?_cons_zero, List.getElem?_cons_succ, mul_L, add_L, sub_L, L.mul, L.sub, L.add, x_lst, x_tup, x_fz, c_lt, c_le, c_gt, c_ge, c_eq, c_ne, c_eqB, c_neB, c_isNI, c_isNB, p_int, p_abs, p_isInt, p_isIntB, p_isBool, p_isBoolB, p_isTup, p_isLst, p_isLstT, p_isSeqT, p_isSeqL, p_isSeqI, p_isSeqB, p_isStrI, p_isStrB, Nat.reduceAdd, Nat.reduceSub, decide_true, decide_false, Bool.not_true, Bool.not_false, Bool.not_not, fGcdL, abs_nat, gcdI, q]
theorem run_reduced {a b : Int} (hg : GcdS C g) (h : 0 < b) (l : L 7 b) (hf : b.natAbs < C.fuel) : runFn C (fReduced g) [.val (.int a), .val (.int b)] = .ok (pr (red a b)) [] := by
  have h1 : ¬ b < 0 := by omega
  have h2 := gcdI_pos (a := a) (b := b) (by omega)
  have h3 := gcdI_L (a := a) (b := b) (by omega) l
  have h4 : gcdI a b ≠ 0 := by omega
  simp (config := { maxDischargeDepth := 20 }) only [bare, getM, runFn, denS, den, denL, List.map, List.replicate, List.length_cons, List.length_nil, R.bind, R.of, R.way, D.tr, D.truth, getV, getO, ioOk, argsOf, afterCall, putIo, Option.isSome, Option.map, Option.bind, bindT, List.set, endOf, List.cons_append, List.nil_append, List.getElem?_cons_zero, List.getElem?_cons_succ, mul_L, add_L, sub_L, L.mul, L.sub, L.add, x_lst, x_tup, x_fz, c_lt, c_le, c_gt, c_ge, c_eq, c_ne, c_eqB, c_neB, c_isNI, c_isNB, p_int, p_abs, p_isInt, p_isIntB, p_isBool, p_isBoolB, p_isTup, p_isLst, p_isLstT, p_isSeqT, p_isSeqL, p_isSeqI, p_isSeqB, p_isStrI, p_isStrB, Nat.reduceAdd, Nat.reduceSub, decide_true, decide_false, Bool.not_true, Bool.not_false, Bool.not_not, fReduced, hg a b hf, h1, fdiv_L h4 h3, pr, red, lim2, ↓reduceIte]
theorem run_ratio {a b : Int} (hg : GcdS C g) (h : 0 < b) (l : L 7 b) (hf : b.natAbs < C.fuel) : runFn C (fRatio g) [.val (.int a), .val (.int b)] = .ok (pr (red a b)) [] := by
  have h1 : ¬ b < 0 := by omega
  have h2 := gcdI_pos (a := a) (b := b) (by omega)
  have h3 := gcdI_L (a := a) (b := b) (by omega) l
  have h4 : gcdI a b ≠ 0 := by omega
  simp (config := { maxDischargeDepth := 20 }) only [bare, getM, runFn, denS, den, denL, List.map, List.replicate, List.length_cons, List.length_nil, R.bind, R.of, R.way, D.tr, D.truth, getV, getO, ioOk, argsOf, afterCall, putIo, Option.isSome, Option.map, Option.bind, bindT, List.set, endOf, List.cons_append, List.nil_append, List.getElem?_cons_zero, List.getElem?_cons_succ, mul_L, add_L, sub_L, L.mul, L.sub, L.add, x_lst, x_tup, x_fz, c_lt, c_le, c_gt, c_ge, c_eq, c_ne, c_eqB, c_neB, c_isNI, c_isNB, p_int, p_abs, p_isInt, p_isIntB, p_isBool, p_isBoolB, p_isTup, p_isLst, p_isLstT, p_isSeqT, p_isSeqL, p_isSeqI, p_isSeqB, p_isStrI, p_isStrB, Nat.reduceAdd, Nat.reduceSub, decide_true, decide_false, Bool.not_true, Bool.not_false, Bool.not_not, fRatio, hg a b hf, h1, fdiv_L h4 h3, pr, red, lim2, ↓reduceIte]
theorem run_low {x y w : Int} (hg : GcdS C g) (h : 0 < w) (l : L 7 w) (hy : y.natAbs < C.fuel) (hf : w.natAbs < C.fuel) : runFn C (fLow g) [.val (.int x), .val (.int y), .val (.int w)] = .ok (low x y w).d [] := by
  have h1 : ¬ w < 0 := by omega
  have h2 := gcdI_pos (a := gcdI x y) (b := w) (by omega)
  have h3 := gcdI_L (a := gcdI x y) (b := w) (by omega) l
  have h4 : gcdI (gcdI x y) w ≠ 0 := by omega
  simp (config := { maxDischargeDepth := 20 }) only [bare, getM, runFn, denS, den, denL, List.map, List.replicate, List.length_cons, List.length_nil, R.bind, R.of, R.way, D.tr, D.truth, getV, getO, ioOk, argsOf, afterCall, putIo, Option.isSome, Option.map, Option.bind, bindT, List.set, endOf, List.cons_append, List.nil_append, List.getElem?_cons_zero, List.getElem?_cons_succ, mul_L, add_L, sub_L, L.mul, L.sub, L.add, x_lst, x_tup, x_fz, c_lt, c_le, c_gt, c_ge, c_eq, c_ne, c_eqB, c_neB, c_isNI, c_isNB, p_int, p_abs, p_isInt, p_isIntB, p_isBool, p_isBoolB, p_isTup, p_isLst, p_isLstT, p_isSeqT, p_isSeqL, p_isSeqI, p_isSeqB, p_isStrI, p_isStrB, Nat.reduceAdd, Nat.reduceSub, decide_true, decide_false, Bool.not_true, Bool.not_false, Bool.not_not, fLow, hg x y hy, hg (gcdI x y) w hf, h1, fdiv_L h4 h3, Pt.d, low, lim3, ↓reduceIte]
theorem run_lowL {x y w : Int} (hg : GcdS C g) (h : 0 < w) (l : L 7 w) (hy : y.natAbs < C.fuel) (hf : w.natAbs < C.fuel) : runFn C (fLowL g) [.val (.int x), .val (.int y), .val (.int w)] = .ok (low x y w).d [] := by
  have h1 : ¬ w < 0 := by omega
  have h2 := gcdI_pos (a := gcdI x y) (b := w) (by omega)
  have h3 := gcdI_L (a := gcdI x y) (b := w) (by omega) l
  have h4 : gcdI (gcdI x y) w ≠ 0 := by omega
  simp (config := { maxDischargeDepth := 20 }) only [bare, getM, runFn, denS, den, denL, List.map, List.replicate, List.length_cons, List.length_nil, R.bind, R.of, R.way, D.tr, D.truth, getV, getO, ioOk, argsOf, afterCall, putIo, Option.isSome, Option.map, Option.bind, bindT, List.set, endOf, List.cons_append, List.nil_append, List.getElem?_cons_zero, List.getElem?_cons_succ, mul_L, add_L, sub_L, L.mul, L.sub, L.add, x_lst, x_tup, x_fz, c_lt, c_le, c_gt, c_ge, c_eq, c_ne, c_eqB, c_neB, c_isNI, c_isNB, p_int, p_abs, p_isInt, p_isIntB, p_isBool, p_isBoolB, p_isTup, p_isLst, p_isLstT, p_isSeqT, p_isSeqL, p_isSeqI, p_isSeqB, p_isStrI, p_isStrB, Nat.reduceAdd, Nat.reduceSub, decide_true, decide_false, Bool.not_true, Bool.not_false, Bool.not_not, fLowL, hg x y hy, hg (gcdI x y) w hf, h1, fdiv_L h4 h3, Pt.d, low, lim3, ↓reduceIte]
theorem run_in {v l m : Int} (h1 : l ≤ v) (h2 : v ≤ m) : runFn C fIn [.val (.int v), .val (.int l), .val (.int m)] = .ok (.bl true) [] := by
  simp (config := { maxDischargeDepth := 20 }) only [bare, getM, runFn, denS, den, denL, List.map, List.replicate, List.length_cons, List.length_nil, R.bind, R.of, R.way, D.tr, D.truth, getV, getO, ioOk, argsOf, afterCall, putIo, Option.isSome, Option.map, Option.bind, bindT, List.set, endOf, List.cons_append, List.nil_append, List.getElem?_cons_zero, List.getElem?_cons_succ, mul_L, add_L, sub_L, L.mul, L.sub, L.add, x_lst, x_tup, x_fz, c_lt, c_le, c_gt, c_ge, c_eq, c_ne, c_eqB, c_neB, c_isNI, c_isNB, p_int, p_abs, p_isInt, p_isIntB, p_isBool, p_isBoolB, p_isTup, p_isLst, p_isLstT, p_isSeqT, p_isSeqL, p_isSeqI, p_isSeqB, p_isStrI, p_isStrB, Nat.reduceAdd, Nat.reduceSub, decide_true, decide_false, Bool.not_true, Bool.not_false, Bool.not_not, fIn, h1, h2]
theorem run_signed {s : List Int} {cs : List D} {m : Int} (ht : TakS C t) (hs : s.length ≤ 63) (hr : Row s cs) (h0 : 0 ≤ m) (hm : m < 1000000000) : ∃ v cs', runFn C (fSigned t) [.own cs, .val (.int m)] = .ok (.int v) cs' ∧ Row s cs' ∧ -m ≤ v ∧ v ≤ m := by
  obtain ⟨v, cs', e, r, h1, h2⟩ := ht s cs (2 * m + 1) hs hr (by omega) (by omega)
  refine ⟨v - m, cs', ?_, r, by omega, by omega⟩
  have l1 : L 12 2 := S64.of (by decide) 12
  have l2 : L 12 m := S64.of (by omega) 12
  simp (config := { maxDischargeDepth := 20 }) only [bare, getM, runFn, denS, den, denL, List.map, List.replicate, List.length_cons, List.length_nil, R.bind, R.of, R.way, D.tr, D.truth, getV, getO, ioOk, argsOf, afterCall, putIo, Option.isSome, Option.map, Option.bind, bindT, List.set, endOf, List.cons_append, List.nil_append, List.getElem?_cons_zero, List.getElem?_cons_succ, mul_L, add_L, sub_L, L.mul, L.sub, L.add, x_lst, x_tup, x_fz, c_lt, c_le, c_gt, c_ge, c_eq, c_ne, c_eqB, c_neB, c_isNI, c_isNB, p_int, p_abs, p_isInt, p_isIntB, p_isBool, p_isBoolB, p_isTup, p_isLst, p_isLstT, p_isSeqT, p_isSeqL, p_isSeqI, p_isSeqB, p_isStrI, p_isStrB, Nat.reduceAdd, Nat.reduceSub, decide_true, decide_false, Bool.not_true, Bool.not_false, Bool.not_not, fSigned, l1, l2, e]
theorem run_pick {s : List Int} {cs xs : List D} (ht : TakS C t) (hs : s.length ≤ 63) (hr : Row s cs) (h0 : 0 < xs.length) (hm : xs.length < 1000) : ∃ (j : Nat) (h : j < xs.length) (cs' : List D), runFn C (fPick t) [.own cs, .val (.lst xs)] = .ok xs[j] cs' ∧ Row s cs' := by
  obtain ⟨v, cs', e, r, h1, h2⟩ := ht s cs (xs.length : Int) hs hr (by omega) (by omega)
  obtain ⟨d, hx, hd⟩ := at_all h1 h2
  have hj : v.toNat < xs.length := by omega
  refine ⟨v.toNat, hj, cs', ?_, r⟩
  have hl : prim .len [.lst xs] = some (.int (xs.length : Int)) := if_pos (Nat.le_trans (Nat.le_of_lt hm) (by decide))
  rw [List.getElem?_eq_getElem hj] at hd
  cases hd
  simp (config := { maxDischargeDepth := 20 }) only [bare, getM, runFn, denS, den, denL, List.map, List.replicate, List.length_cons, List.length_nil, R.bind, R.of, R.way, D.tr, D.truth, getV, getO, ioOk, argsOf, afterCall, putIo, Option.isSome, Option.map, Option.bind, bindT, List.set, endOf, List.cons_append, List.nil_append, List.getElem?_cons_zero, List.getElem?_cons_succ, mul_L, add_L, sub_L, L.mul, L.sub, L.add, x_lst, x_tup, x_fz, c_lt, c_le, c_gt, c_ge, c_eq, c_ne, c_eqB, c_neB, c_isNI, c_isNB, p_int, p_abs, p_isInt, p_isIntB, p_isBool, p_isBoolB, p_isTup, p_isLst, p_isLstT, p_isSeqT, p_isSeqL, p_isSeqI, p_isSeqB, p_isStrI, p_isStrB, Nat.reduceAdd, Nat.reduceSub, decide_true, decide_false, Bool.not_true, Bool.not_false, Bool.not_not, fPick, hl, hx, e]
end Ev
set_option Elab.async false
set_option linter.all false
set_option maxRecDepth 100000
set_option maxHeartbeats 4000000
set_option autoImplicit false
/-! Kn1: runs that the kernel does: what is true at the end. -/
namespace Ev
def kOk : R Fl → Bool
  | .ok (.rt (.bl true)) _ => true
  | _ => false
theorem kOk_i {r : R Fl} (h : kOk r = true) : ∃ e, r = .ok (.rt (.bl true)) e := by
  match r, h with
  | .ok (.rt (.bl true)) e, _ => exact ⟨e, rfl⟩
  | .ok .nx _, h => cases h
  | .ok .bk _, h => cases h
  | .ok .ct _, h => cases h
  | .ok (.rt .non) _, h => cases h
  | .ok (.rt (.bl false)) _, h => cases h
  | .ok (.rt (.int _)) _, h => cases h
  | .ok (.rt (.str _)) _, h => cases h
  | .ok (.rt (.tup _)) _, h => cases h
  | .ok (.rt (.lst _)) _, h => cases h
  | .ok (.rt (.fz _)) _, h => cases h
  | .ok (.rt .emp) _, h => cases h
  | .ex _ _, h => cases h
  | .no, h => cases h
def iteA : Sm → Sm
  | .ite _ a _ => a
  | _ => .nil
def iteC : Sm → Ex
  | .ite c _ _ => c
  | _ => .nil
def headS : Sm → Sm
  | .cons s _ => s
  | s => s
def dropS : Nat → Sm → Sm
  | 0, s => s
  | n + 1, .cons _ r => dropS n r
  | _, s => s
section
variable {C : Ctx} {c : Ex} {a b r s : Sm} {e e1 e2 : Env} {d : D}
theorem k_seq (h : denS C s e = .ok .nx e1) : denS C (.cons s r) e = denS C r e1 := by
  simp only [denS]
  rw [h]
  rfl
theorem k_iteRt (h : den C c e = .ok (.bl true) e1) (k : denS C a e1 = .ok (.rt d) e2) : denS C (.cons (.ite c a b) r) e = .ok (.rt d) e2 := by
  simp only [denS]
  rw [h]
  show (denS C a e1).bind _ = _
  rw [k]
  rfl
theorem k_iteNx (h : den C c e = .ok (.bl false) e1) : denS C (.cons (.ite c a .nil) r) e = denS C r e1 := by
  simp only [denS]
  rw [h]
  rfl
/-- a def's own list grown: it is not an io def -/
theorem k_run {F : Fn} {xs : List Sl} (io : F.io = false) (h : kOk (denS C F.body (xs.map some ++ List.replicate (F.ns - F.np) none)) = true) : ∃ cs, runFn C F xs = .ok (.bl true) cs := by
  obtain ⟨e, q⟩ := kOk_i h
  refine ⟨[], ?_⟩
  unfold runFn
  rw [q]
  show endOf F.io (.bl true) e = _
  rw [io]
  rfl
end
end Ev
set_option Elab.async false
set_option linter.all false
set_option maxRecDepth 100000
set_option maxHeartbeats 4000000
set_option autoImplicit false
/-! X31: known order types. -/
namespace Lw
open Ev
abbrev T : List Fn := ents.map Ent.fn
abbrev cl (fu n : Nat) : Call := callN (globI glv) fu T n
abbrev cx (fu n : Nat) : Ctx := ⟨cl fu n, globI glv, fu⟩
theorem call_eq {fu n f : Nat} {F : Fn} {xs : List Sl} (h : T[f]? = some F) (k : argsFit F xs = true) : cl fu (n + 1) f xs = runFn (cx fu n) F xs := by
  show (match T[f]? with | none => O.no | some F => if argsFit F xs = true then runFn (cx fu n) F xs else .no) = _
  rw [h]
  exact if_pos k
theorem tak {fu n : Nat} : TakS (cx fu (n + 1)) 70 := fun s cs m hs hr h0 hm => by
  obtain ⟨v, cs', e, r⟩ := taken_ok (C := cx fu n) hs hr h0 hm
  exact ⟨v, cs', (call_eq (fu := fu) (n := n) (f := 70) (F := fTaken) rfl rfl).trans e, r⟩
def lawA : Sm := iteA (headS (dropS 2 ir72))
def lawB : Sm := dropS 3 ir72
def p3 (x y z : Int) : D := .tup [.int x, .int y, .int z]
def five : D := .tup [p3 0 0 1, p3 4 0 1, p3 5 3 1, p3 2 5 1, p3 (-1) 3 1]
def env0 (v0 : D) (cs : List D) : Env := [some (.val v0), some (.own cs), some (.val five), none, none, none]
theorem A_ok (v0 : D) (cs : List D) : kOk (denS (cx 100000 8) lawA (env0 v0 cs)) = true := by kernel_rfl
theorem B_ok (v0 : D) (cs : List D) : kOk (denS (cx 100000 8) lawB (env0 v0 cs)) = true := by kernel_rfl
theorem x1 (v0 : D) (cs : List D) : denS (cx 100000 8) (headS (dropS 1 ir72)) [some (.val v0), some (.own cs), none, none, none, none] = .ok .nx (env0 v0 cs) := by kernel_rfl
theorem plain : Plain 9 100000 := fun ns hs => by
  have hr : Row ns [.fz (ns.map D.int), .int 0, .int 3231, .int 0] := ⟨0, 3231, 0, rfl, by decide, by decide, by decide, by decide⟩
  obtain ⟨v, cs', e, r, v0, v1⟩ := tak (fu := 100000) (n := 7) ns _ 2 hs hr (by decide) (by decide)
  have e : cl 100000 8 70 [.own [.fz (ns.map D.int), .int 0, .int 3231, .int 0], .val (.int 2)] = .ok (.int v) cs' := e
  show ∃ cs, cl 100000 9 72 [.val (.fz (ns.map D.int))] = .ok (.bl true) cs
  rw [call_eq (F := en72.fn) rfl rfl]
  have x0 : denS (cx 100000 8) (headS ir72) [some (.val (.fz (ns.map D.int))), none, none, none, none, none] = .ok .nx [some (.val (.fz (ns.map D.int))), some (.own [.fz (ns.map D.int), .int 0, .int 3231, .int 0]), none, none, none, none] := by
    simp (config := { maxDischargeDepth := 20 }) only [bare, getM, runFn, Ent.fn, denS, den, denL, List.map, List.replicate, List.length_cons, List.length_nil, R.bind, R.of, R.way, D.tr, D.truth, getV, getO, ioOk, argsOf, afterCall, putIo, Option.isSome, Option.map, Option.bind, bindT, List.set, endOf, List.cons_append, List.nil_append, List.getElem?_cons_zero, List.getElem?_cons_succ, mul_L, add_L, sub_L, L.mul, L.sub, L.add, x_lst, x_tup, x_fz, c_lt, c_le, c_gt, c_ge, c_eq, c_ne, c_eqB, c_neB, c_isNI, c_isNB, p_int, p_abs, p_isInt, p_isIntB, p_isBool, p_isBoolB, p_isTup, p_isLst, p_isLstT, p_isSeqT, p_isSeqL, p_isSeqI, p_isSeqB, p_isStrI, p_isStrB, Nat.reduceAdd, Nat.reduceSub, decide_true, decide_false, Bool.not_true, Bool.not_false, Bool.not_not, headS, ir72, lim4, ↓reduceIte]
  have hc : den (cx 100000 8) (iteC (headS (dropS 2 ir72))) (env0 (.fz (ns.map D.int)) [.fz (ns.map D.int), .int 0, .int 3231, .int 0]) = .ok (.bl (decide (v = 0))) (env0 (.fz (ns.map D.int)) cs') := by
    unfold env0
    simp (config := { maxDischargeDepth := 20 }) only [bare, getM, runFn, denS, den, denL, List.map, List.replicate, List.length_cons, List.length_nil, R.bind, R.of, R.way, D.tr, D.truth, getV, getO, ioOk, argsOf, afterCall, putIo, Option.isSome, Option.map, Option.bind, bindT, List.set, endOf, List.cons_append, List.nil_append, List.getElem?_cons_zero, List.getElem?_cons_succ, mul_L, add_L, sub_L, L.mul, L.sub, L.add, x_lst, x_tup, x_fz, c_lt, c_le, c_gt, c_ge, c_eq, c_ne, c_eqB, c_neB, c_isNI, c_isNB, p_int, p_abs, p_isInt, p_isIntB, p_isBool, p_isBoolB, p_isTup, p_isLst, p_isLstT, p_isSeqT, p_isSeqL, p_isSeqI, p_isSeqB, p_isStrI, p_isStrB, Nat.reduceAdd, Nat.reduceSub, decide_true, decide_false, Bool.not_true, Bool.not_false, Bool.not_not, headS, dropS, iteC, ir72, e]
  have hb : ir72 = .cons (headS ir72) (.cons (headS (dropS 1 ir72)) (.cons (.ite (iteC (headS (dropS 2 ir72))) lawA .nil) lawB)) := rfl
  have kk : kOk (denS (cx 100000 8) ir72 [some (.val (.fz (ns.map D.int))), none, none, none, none, none]) = true := by
    rw [hb, k_seq x0, k_seq (x1 _ _)]
    by_cases h : v = 0
    · rw [decide_eq_true h] at hc
      obtain ⟨e2, q⟩ := kOk_i (A_ok (.fz (ns.map D.int)) cs')
      rw [k_iteRt hc q]
      rfl
    · rw [decide_eq_false h] at hc
      rw [k_iteNx hc]
      exact B_ok _ _
  exact k_run (F := en72.fn) rfl kk
end Lw
theorem PySem.Challenge.cw_meshcore_k31_known_order_types_holds : PySem.Challenge.rw_meshcore_k31_known_order_types.Holds :=
  Lw.holds (depth := 9) ⟨rfl, by decide, by decide⟩ Lw.plain
