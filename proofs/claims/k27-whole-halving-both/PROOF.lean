import PyProof.Rows.All
import Wide.All
import OpenK.AllK
import Wide.FinOn
import HandS.ForMost
import HandS.Wide
import HandS.Deep
import HandS.TupAny
import HandS.IsInst
import HandS.Style
import HandS.ExcOwn
import HandS.WordsExc
import HandS.Flow
import KE.KTupSum
import HandS.NoneIn
import HandS.Defaults
import HandS.Ends
import HandS.HeadEnd
import HandS.Head0
import HandS.Head1
import HandS.Head2
import HandS.HeadHook1
import HandS.HeadHook2
import PySem.Challenge.RW_meshcore_k27_whole_halving_both
set_option Elab.async false
set_option linter.all false
set_option maxRecDepth 100000
set_option maxHeartbeats 4000000
/-! Ev0: plain values, a small language of trees, and what its trees compute: plain Lean, no model in sight. -/
namespace Ev
open PySem
/-- values (fz: a list that nobody may write: the script) -/
inductive D where
  | non | bl (b : Bool) | int (i : Int) | str (x : Str) | tup (ds : List D) | lst (ds : List D) | fz (ds : List D)
  deriving Inhabited
/-- what a slot holds: a value, or a list that nobody else knows -/
inductive Sl where
  | val (d : D) | own (ds : List D)
abbrev Env := List (Option Sl)
/-- an error: its class (a number of the table), its fields -/
structure Exn where
  cls : Nat
  args : List D
inductive R (a : Type) where
  | ok (x : a) (e : Env) | ex (x : Exn) (e : Env) | no
def R.bind {a b : Type} (x : R a) (f : a → Env → R b) : R b := match x with
  | .ok v e => f v e
  | .ex x e => .ex x e
  | .no => .no
def R.of {a : Type} (o : Option a) (e : Env) : R a := match o with
  | some v => .ok v e
  | none => .no
/-- what a call gives: a value and what the first parameter's own list holds then -/
inductive O where
  | ok (d : D) (cs : List D) | ex (x : Exn) | no
abbrev Call := Nat → List Sl → O
structure Ctx where
  call : Call
  glob : Nat → D
  fuel : Nat

/-! ### values: truth, equality, depth -/
def D.truth : D → Bool
  | .non => false
  | .bl b => b
  | .int i => !(decide (i = 0))
  | .str x => !(x.length == 0)
  | .tup ds => !ds.isEmpty
  | .lst ds => !ds.isEmpty
  | .fz ds => !ds.isEmpty
/-- a value's truth, where it is asked here -/
def D.tr : D → Option Bool
  | .str _ => none
  | d => some d.truth
/-- one of two ways, by truth -/
def R.way {a : Type} (x : D) (t f : R a) : R a := match x.tr with
  | some true => t
  | some false => f
  | none => .no
mutual
def D.eqv : D → D → Bool
  | .non, .non => true
  | .bl a, .bl b => a == b
  | .int a, .int b => decide (a = b)
  | .bl a, .int b => decide ((if a = true then (1 : Int) else 0) = b)
  | .int a, .bl b => decide (a = (if b = true then (1 : Int) else 0))
  | .str a, .str b => decide (a = b)
  | .tup as, .tup bs => D.eqvs as bs
  | .lst as, .lst bs => D.eqvs as bs
  | _, _ => false
def D.eqvs : List D → List D → Bool
  | [], [] => true
  | a :: as, b :: bs => D.eqv a b && D.eqvs as bs
  | _, _ => false
end
mutual
/-- depth at most n, plain texts -/
def D.sh : Nat → D → Bool
  | n, .tup ds => D.shs n ds
  | n, .lst ds => D.shs n ds
  | _, .str x => x.cps.all (· < 0x110000)
  | _, .fz _ => false
  | _, _ => true
def D.shs : Nat → List D → Bool
  | _, [] => true
  | 0, _ :: _ => false
  | n + 1, d :: ds => D.sh n d && D.shs (n + 1) ds
end
mutual
/-- no list that may be written is within -/
def D.flat : D → Bool
  | .tup ds => D.flats ds
  | .lst _ => false
  | .fz ds => D.flats ds
  | _ => true
def D.flats : List D → Bool
  | [] => true
  | d :: ds => D.flat d && D.flats ds
end
/-- the most that a list may hold here -/
def lim : Nat := 16000000

/-! ### operators -/
inductive Bop where
  | add | sub | mul | fdiv | mod | pow
inductive Cop where
  | eq | ne | lt | le | gt | ge | isN | notN | mem | nmem
def mulOk (i j : Int) : Bool := decide (i.natAbs.log2 + j.natAbs.log2 < 1000000)
/-- a truth value as a number -/
def b01 (b : Bool) : Int := if b = true then 1 else 0
def binop : Bop → D → D → Option D
  | .add, .int i, .int j => some (.int (i + j))
  | .add, .lst a, .lst b => if a.length + b.length ≤ lim then some (.lst (a ++ b)) else none
  | .add, .tup a, .tup b => if a.length + b.length ≤ lim then some (.tup (a ++ b)) else none
  | .sub, .int i, .int j => some (.int (i - j))
  | .add, .bl p, .bl q => some (.int (b01 p + b01 q))
  | .add, .int i, .bl q => some (.int (i + b01 q))
  | .add, .bl p, .int j => some (.int (b01 p + j))
  | .sub, .bl p, .bl q => some (.int (b01 p - b01 q))
  | .sub, .int i, .bl q => some (.int (i - b01 q))
  | .sub, .bl p, .int j => some (.int (b01 p - j))
  | .mul, .int i, .int j => if mulOk i j = true then some (.int (i * j)) else none
  | .mul, .lst a, .int k => if a.length * k.toNat ≤ lim ∧ -(2 ^ 63) ≤ k ∧ k < 2 ^ 63 then some (.lst (List.replicate k.toNat a).flatten) else none
  | .fdiv, .int i, .int j => if j = 0 then none else if j.natAbs.log2 < 9000 then some (.int (i.fdiv j)) else none
  | .mod, .int i, .int j => if j = 0 then none else some (.int (i.fmod j))
  | .pow, .int i, .int j => if 0 ≤ j ∧ j ≤ 1000000 ∧ i.natAbs < 2 ^ 64 then some (.int (i ^ j.toNat)) else none
  | _, _, _ => none
def memOf (d : D) : List D → Bool
  | [] => false
  | y :: ys => D.eqv y d || memOf d ys
def cmpop : Cop → D → D → Option Bool
  | .eq, a, b => if (D.sh 60 a && D.sh 60 b) = true then some (D.eqv a b) else none
  | .ne, a, b => if (D.sh 60 a && D.sh 60 b) = true then some (!D.eqv a b) else none
  | .lt, .int i, .int j => some (decide (i < j))
  | .le, .int i, .int j => some (decide (i ≤ j))
  | .gt, .int i, .int j => some (decide (j < i))
  | .ge, .int i, .int j => some (decide (j ≤ i))
  | .isN, a, .non => match a with
    | .non => some true
    | _ => some false
  | .notN, a, .non => match a with
    | .non => some false
    | _ => some true
  | .mem, d, .lst ys => if (D.sh 60 d && D.sh 60 (.lst ys)) = true then some (memOf d ys) else none
  | .mem, d, .tup ys => if (D.sh 60 d && D.sh 60 (.tup ys)) = true then some (memOf d ys) else none
  | .nmem, d, .lst ys => if (D.sh 60 d && D.sh 60 (.lst ys)) = true then some (!memOf d ys) else none
  | .nmem, d, .tup ys => if (D.sh 60 d && D.sh 60 (.tup ys)) = true then some (!memOf d ys) else none
  | _, _, _ => none
/-- the place that an index means -/
def place (n : Nat) (i : Int) : Option Nat := match i with
  | .ofNat k => if k < n then some k else none
  | .negSucc k => if k + 1 ≤ n then some (n - (k + 1)) else none
def at_ (xs : List D) (i : Int) : Option D := (place xs.length i).bind fun k => xs[k]?
def ixop : D → D → Option D
  | .tup xs, .int i => at_ xs i
  | .lst xs, .int i => at_ xs i
  | .fz xs, .int i => at_ xs i
  | _, _ => none
/-- an end of a slice -/
def cutAt (n : Nat) (dflt : Nat) : Option Int → Nat
  | none => dflt
  | some (.ofNat k) => min k n
  | some (.negSucc k) => n - (k + 1)
def cutOf {a : Type} (xs : List a) (lo hi : Option Int) : List a :=
  (xs.drop (cutAt xs.length 0 lo)).take (cutAt xs.length xs.length hi - cutAt xs.length 0 lo)
def slop : D → Option Int → Option Int → Option D
  | .tup xs, l, h => some (.tup (cutOf xs l h))
  | .lst xs, l, h => some (.lst (cutOf xs l h))
  | _, _, _ => none
/-- back to front -/
def revop : D → Option D
  | .tup xs => some (.tup xs.reverse)
  | .lst xs => some (.lst xs.reverse)
  | _ => none
/-! ### built-ins -/
inductive Prim where
  | len | abs | int | tuple | list | sum | min1 | max1 | isInt | isBool | isTup | isLst | isStr | isSeq
inductive Prim2 where
  | min2 | max2
def prim2 : Prim2 → D → D → Option D
  | .min2, .int i, .int j => some (.int (if j < i then j else i))
  | .max2, .int i, .int j => some (.int (if j > i then j else i))
  | _, _, _ => none
def intsOf : List D → Option (List Int)
  | [] => some []
  | .int i :: ds => (intsOf ds).map fun is => i :: is
  | _ :: _ => none
def leastOf : List Int → Int → Int
  | [], m => m
  | i :: is, m => leastOf is (if i < m then i else m)
def mostOf : List Int → Int → Int
  | [], m => m
  | i :: is, m => mostOf is (if m < i then i else m)
def isP (p : D → Bool) : D → Option D
  | .fz _ => none
  | d => some (.bl (p d))
def prim : Prim → List D → Option D
  | .len, [.tup xs] => if xs.length ≤ lim then some (.int xs.length) else none
  | .len, [.lst xs] => if xs.length ≤ lim then some (.int xs.length) else none
  | .len, [.fz xs] => if xs.length ≤ lim then some (.int xs.length) else none
  | .abs, [.int i] => some (.int (if i < 0 then -i else i))
  | .int, [.int i] => some (.int i)
  | .int, [.bl b] => some (.int (if b = true then 1 else 0))
  | .tuple, [.lst xs] => some (.tup xs)
  | .tuple, [.tup xs] => some (.tup xs)
  | .list, [.lst xs] => some (.lst xs)
  | .list, [.tup xs] => some (.lst xs)
  | .sum, [.lst xs] => (intsOf xs).map fun is => .int is.sum
  | .sum, [.tup xs] => (intsOf xs).map fun is => .int is.sum
  | .min1, [.lst xs] => match intsOf xs with
    | some (i :: is) => some (.int (leastOf is i))
    | _ => none
  | .max1, [.lst xs] => match intsOf xs with
    | some (i :: is) => some (.int (mostOf is i))
    | _ => none
  | .isInt, [d] => isP (fun d => match d with | .int _ => true | .bl _ => true | _ => false) d
  | .isBool, [d] => isP (fun d => match d with | .bl _ => true | _ => false) d
  | .isTup, [d] => isP (fun d => match d with | .tup _ => true | _ => false) d
  | .isLst, [d] => isP (fun d => match d with | .lst _ => true | _ => false) d
  | .isStr, [d] => isP (fun d => match d with | .str _ => true | _ => false) d
  | .isSeq, [d] => isP (fun d => match d with | .tup _ => true | .lst _ => true | _ => false) d
  | _, _ => none

/-! ### trees -/
inductive Tg where
  | nm (i : Nat) | tp (t : Tg) | nil | cons (t ts : Tg)
def Tg.slots : Tg → List Nat
  | .nm i => [i]
  | .tp t => t.slots
  | .nil => []
  | .cons t ts => t.slots ++ ts.slots
/-- expressions, rows of expressions (nil, cons), what is walked (items, rng1 .. zip) -/
inductive Ex where
  | lit (d : D) | var (i : Nat) | gval (x : Nat)
  | tup (as : Ex) | lst (as : Ex)
  | bin (o : Bop) (a b : Ex) | neg (a : Ex)
  | cmp (o : Cop) (a b : Ex) | cmp2 (o p : Cop) (a b c : Ex)
  | and (a b : Ex) | or (a b : Ex) | not (a : Ex) | ite (c a b : Ex)
  | call (f : Nat) (io : Option Nat) (as : Ex)
  | ix (a b : Ex) | oix (i : Nat) (b : Ex)
  | sl (a lo hi : Ex)
  | prim (p : Prim) (as : Ex) | prim2 (p : Prim2) (a b : Ex) | isi (p : Prim) (a : Ex) | olen (i : Nat) | rev (a : Ex)
  | lc (vs : List Nat) (t : Tg) (src cond elt : Ex)
  | lc2 (vs : List Nat) (t : Tg) (src cond : Ex) (vs1 : List Nat) (t1 : Tg) (src1 cond1 elt : Ex)
  | lend (i : Nat) (a : Ex)
  | nil | cons (a as : Ex)
  | items (a : Ex) | rng1 (a : Ex) | rng2 (a b : Ex)
inductive Sm where
  | nil | cons (s ss : Sm)
  | exp (e : Ex) | asg (t : Tg) (e : Ex) | own (i : Nat) (e : Ex)
  | par2 (i j : Nat) (a b : Ex) | parN (is : List Nat) (os : List Bool) (as : Ex) | par3 (i j k : Nat) (a b c : Ex)
  | setix (i : Nat) (k e : Ex) | aug (i : Nat) (o : Bop) (e : Ex) | augix (i : Nat) (k : Ex) (o : Bop) (e : Ex) | app (i : Nat) (e : Ex)
  | ret (e : Ex) | retN | ite (c : Ex) (a b : Sm) | whl (c : Ex) (b : Sm) | for_ (t : Tg) (src : Ex) (b : Sm)
  | brk | cnt | pass | never
/-- a part of a slice: left out, or an int -/
def noneB : Ex → Bool
  | .lit .non => true
  | _ => false
def partR (left : Bool) (d : D) : Option (Option Int) := match left with
  | true => some none
  | false => match d with
    | .int i => some (some i)
    | _ => none
/-! ### slots -/
def getV (e : Env) (i : Nat) : R D := match e[i]? with
  | some (some (.val d)) => .ok d e
  | some (some (.own ds)) => .ok (.lst ds) (e.set i (some (.val (.lst ds))))
  | _ => .no
def getO (e : Env) (i : Nat) : Option (List D) := match e[i]? with
  | some (some (.own ds)) => some ds
  | _ => none
/-- a name stored; a tuple taken apart -/
def bindT : Tg → D → Env → Option Env
  | .nm i, d, e => some (e.set i (some (.val d)))
  | .tp t, d, e => match d with
    | .tup ds => bindT t (.lst ds) e
    | .lst ds => bindT t (.lst ds) e
    | _ => none
  | .nil, d, e => match d with
    | .lst [] => some e
    | _ => none
  | .cons t ts, d, e => match d with
    | .lst (x :: xs) => (bindT t x e).bind fun e1 => bindT ts (.lst xs) e1
    | _ => none
def wipes (e : Env) : List Nat → Env
  | [] => e
  | v :: vs => (wipes e vs).set v none
/-- the slots vs as they were in e -/
def backs (e e1 : Env) : List Nat → Env
  | [] => e1
  | v :: vs => (backs e e1 vs).set v ((e[v]?).getD none)
def range_ (lo : Int) : Nat → List D
  | 0 => []
  | n + 1 => .int lo :: range_ (lo + 1) n
def rangeOk (lo hi : Int) : Bool := decide (-(2 ^ 62) ≤ lo ∧ lo < 2 ^ 62 ∧ -(2 ^ 62) ≤ hi ∧ hi < 2 ^ 62)
def compL (vs : List Nat) (t : Tg) (c : Env → R D) (f : Env → R D) : List D → Env → R (List D)
  | [], e => .ok [] e
  | d :: ds, e => match bindT t d (wipes e vs) with
    | none => .no
    | some e1 => match c e1 with
      | .ok b e2 => match b with
        | .bl true => match f e2 with
          | .ok y e3 => (compL vs t c f ds e3).bind fun ys e4 => .ok (y :: ys) e4
          | _ => .no
        | .bl false => compL vs t c f ds e2
        | _ => .no
      | _ => .no
/-- two clauses -/
def compL2 (vs : List Nat) (t : Tg) (c : Env → R D) (s1 : Env → R (List D)) (vs1 : List Nat) (t1 : Tg) (c1 f : Env → R D) : List D → Env → R (List D)
  | [], e => .ok [] e
  | d :: ds, e => match bindT t d (wipes e vs) with
    | none => .no
    | some e1 => match c e1 with
      | .ok b e2 => match b with
        | .bl true => match s1 e2 with
          | .ok ds1 e3 => match compL vs1 t1 c1 f ds1 e3 with
            | .ok ys1 e4 => (compL2 vs t c s1 vs1 t1 c1 f ds e4).bind fun ys e5 => .ok (ys1 ++ ys) e5
            | _ => .no
          | _ => .no
        | .bl false => compL2 vs t c s1 vs1 t1 c1 f ds e2
        | _ => .no
      | _ => .no
def slFlat : Option Sl → Bool
  | none => true
  | some (.val d) => d.flat
  | some (.own ds) => D.flats ds
def isVal : Option Sl → Bool
  | some (.val _) => true
  | _ => false
/-- slot i's list may be its own again: nobody else got it -/
def lendOk (i : Nat) : Nat → Env → Env → Bool
  | k, a :: e, b :: e' => (k == i || (isVal a || slFlat b)) && lendOk i (k + 1) e e'
  | _, _, _ => true
/-- behind a call: the first argument's own list is put back -/
def putIo (io : Option Nat) (cs : List D) (e : Env) : Env := match io with
  | none => e
  | some i => e.set i (some (.own cs))
def argsOf (io : Option Nat) (ds : List D) (e : Env) : Option (List Sl) := match io with
  | none => some (ds.map Sl.val)
  | some i => (getO e i).map fun cs => .own cs :: ds.map Sl.val
def ioOk (io : Option Nat) (e : Env) : Bool := match io with
  | none => true
  | some i => (getO e i).isSome
def afterCall (io : Option Nat) (o : O) (e : Env) : R D := match o with
  | .ok d cs => .ok d (putIo io cs e)
  | .ex x => match io with
    | none => .ex x e
    | some _ => .no
  | .no => .no
mutual
def den (C : Ctx) : Ex → Env → R D
  | .lit d, e => .ok d e
  | .var i, e => getV e i
  | .gval x, e => .ok (C.glob x) e
  | .tup as, e => (denL C as e).bind fun ds e => if ds.length ≤ lim then .ok (.tup ds) e else .no
  | .lst as, e => (denL C as e).bind fun ds e => if ds.length ≤ lim then .ok (.lst ds) e else .no
  | .bin o a b, e => (den C a e).bind fun x e => (den C b e).bind fun y e => R.of (binop o x y) e
  | .neg a, e => (den C a e).bind fun x e => match x with
    | .int i => .ok (.int (-i)) e
    | _ => .no
  | .cmp o a b, e => (den C a e).bind fun x e => (den C b e).bind fun y e => R.of ((cmpop o x y).map D.bl) e
  | .cmp2 o p a b c, e => (den C a e).bind fun x e => (den C b e).bind fun y e => match cmpop o x y with
    | some true => (den C c e).bind fun z e => R.of ((cmpop p y z).map D.bl) e
    | some false => .ok (.bl false) e
    | none => .no
  | .and a b, e => (den C a e).bind fun x e => match x with
    | .bl true => den C b e
    | .bl false => .ok (.bl false) e
    | _ => .no
  | .or a b, e => (den C a e).bind fun x e => match x with
    | .bl true => .ok (.bl true) e
    | .bl false => den C b e
    | _ => .no
  | .not a, e => (den C a e).bind fun x e => R.way x (.ok (.bl false) e) (.ok (.bl true) e)
  | .ite c a b, e => (den C c e).bind fun x e => R.way x (den C a e) (den C b e)
  | .call f io as, e => match ioOk io e with
    | true => (denL C as e).bind fun ds e => match argsOf io ds e with
      | some xs => afterCall io (C.call f xs) e
      | none => .no
    | false => .no
  | .ix a b, e => (den C a e).bind fun x e => (den C b e).bind fun y e => R.of (ixop x y) e
  | .oix i b, e => match ioOk (some i) e with
    | true => (den C b e).bind fun y e => match getO e i with
      | some ds => R.of (ixop (.lst ds) y) e
      | none => .no
    | false => .no
  | .sl a lo hi, e => (den C a e).bind fun x e => ((den C lo e).bind fun l e => R.of (partR (noneB lo) l) e).bind fun l e => ((den C hi e).bind fun h e => R.of (partR (noneB hi) h) e).bind fun h e => R.of (slop x l h) e
  | .prim p as, e => (denL C as e).bind fun ds e => R.of (prim p ds) e
  | .prim2 p a b, e => (den C a e).bind fun x e => (den C b e).bind fun y e => R.of (prim2 p x y) e
  | .isi p a, e => (den C a e).bind fun x e => R.of (prim p [x]) e
  | .rev a, e => (den C a e).bind fun x e => R.of (revop x) e
  | .olen i, e => match getO e i with
    | some ds => R.of (prim .len [.lst ds]) e
    | none => .no
  | .lc vs t src cond elt, e => (denL C src e).bind fun ds e => match vs.all fun v => (getO e v).isNone with
    | true => match compL vs t (den C cond) (den C elt) ds e with
      | .ok ys e1 => if ys.length ≤ lim then .ok (.lst ys) (backs e e1 vs) else .no
      | _ => .no
    | false => .no
  | .lc2 vs t src cond vs1 t1 src1 cond1 elt, e => (denL C src e).bind fun ds e => match vs.all fun v => (getO e v).isNone with
    | true => match compL2 vs t (den C cond) (denL C src1) vs1 t1 (den C cond1) (den C elt) ds e with
      | .ok ys e1 => if ys.length ≤ lim then .ok (.lst ys) (backs e e1 vs) else .no
      | _ => .no
    | false => .no
  | .lend i a, e => match getO e i with
    | some ds => (den C a (e.set i (some (.val (.lst ds))))).bind fun d e1 => if (d.flat && lendOk i 0 e e1) = true then .ok d (e1.set i (some (.own ds))) else .no
    | none => .no
  | _, _ => .no
def denL (C : Ctx) : Ex → Env → R (List D)
  | .nil, e => .ok [] e
  | .cons a as, e => (den C a e).bind fun x e => (denL C as e).bind fun xs e => .ok (x :: xs) e
  | .items a, e => (den C a e).bind fun x e => match x with
    | .tup ds => .ok ds e
    | .lst ds => .ok ds e
    | .fz ds => .ok ds e
    | _ => .no
  | .rng1 a, e => (den C a e).bind fun x e => match x with
    | .int n => if rangeOk 0 n = true then .ok (range_ 0 n.toNat) e else .no
    | _ => .no
  | .rng2 a b, e => (den C a e).bind fun x e => (den C b e).bind fun y e => match x, y with
    | .int i, .int j => if rangeOk i j = true then .ok (range_ i (j - i).toNat) e else .no
    | _, _ => .no
  | _, _ => .no
end
/-! ### statements -/
inductive Fl where
  | nx | bk | ct | rt (d : D)
def loopW (c : Env → R D) (b : Env → R Fl) : Nat → Env → R Fl
  | 0, _ => .no
  | n + 1, e => (c e).bind fun x e => R.way x ((b e).bind fun f e => match f with
      | .nx => loopW c b n e
      | .ct => loopW c b n e
      | .bk => .ok .nx e
      | .rt d => .ok (.rt d) e) (.ok .nx e)
def loopF (t : Tg) (b : Env → R Fl) : List D → Env → R Fl
  | [], e => .ok .nx e
  | d :: ds, e => match bindT t d e with
    | none => .no
    | some e => (b e).bind fun f e => match f with
      | .nx => loopF t b ds e
      | .ct => loopF t b ds e
      | .bk => .ok .nx e
      | .rt d => .ok (.rt d) e
/-- an item of an own list stored -/
def setAt (ds : List D) (k : D) (d : D) : Option (List D) := match k with
  | .int i => (place ds.length i).map fun j => ds.set j d
  | _ => none
/-- op= on ints -/
def augop : Bop → D → D → Option D
  | .add, .int i, .int j => some (.int (i + j))
  | .sub, .int i, .int j => some (.int (i - j))
  | _, _, _ => none
/-- a value stored: as it is, or as the slot's own list -/
def slOf : Bool → D → Option Sl
  | false, d => some (.val d)
  | true, .lst ds => some (.own ds)
  | true, _ => none
def slsOf : List Bool → List D → Option (List Sl)
  | [], [] => some []
  | o :: os, d :: ds => (slOf o d).bind fun s => (slsOf os ds).map fun ss => s :: ss
  | _, _ => none
def putRow : List Nat → List Sl → Env → Env
  | i :: is, s :: ss, e => putRow is ss (e.set i (some s))
  | _, _, e => e
def asL (r : R D) : R D := r.bind fun d e => match d with
  | .lst ds => .ok (.lst ds) e
  | _ => .no
/-- a row: true for a new list that will be a name's own -/
def denRow (C : Ctx) : List Bool → Ex → Env → R (List D)
  | true :: os, .cons a as, e => (asL (den C a e)).bind fun x e => (denRow C os as e).bind fun xs e => .ok (x :: xs) e
  | false :: os, .cons a as, e => (den C a e).bind fun x e => (denRow C os as e).bind fun xs e => .ok (x :: xs) e
  | [], .nil, e => .ok [] e
  | _, _, _ => .no
def denS (C : Ctx) : Sm → Env → R Fl
  | .nil, e => .ok .nx e
  | .cons s ss, e => (denS C s e).bind fun f e => match f with
    | .nx => denS C ss e
    | f => .ok f e
  | .exp a, e => (den C a e).bind fun _ e => .ok .nx e
  | .asg t a, e => (den C a e).bind fun d e => match bindT t d e with
    | some e => .ok .nx e
    | none => .no
  | .own i a, e => (den C a e).bind fun d e => match d with
    | .lst ds => .ok .nx (e.set i (some (.own ds)))
    | _ => .no
  | .par2 i j a b, e => (den C a e).bind fun x e => (den C b e).bind fun y e => .ok .nx ((e.set i (some (.val x))).set j (some (.val y)))
  | .parN is os as, e => (denRow C os as e).bind fun ds e => match slsOf os ds with
    | some ss => .ok .nx (putRow is ss e)
    | none => .no
  | .par3 i j k a b c, e => (den C a e).bind fun x e => (den C b e).bind fun y e => (den C c e).bind fun z e => .ok .nx (((e.set i (some (.val x))).set j (some (.val y))).set k (some (.val z)))
  | .setix i k a, e => (den C a e).bind fun d e => match ioOk (some i) e with
    | true => (den C k e).bind fun y e => match (getO e i).bind fun ds => setAt ds y d with
      | some ds => .ok .nx (e.set i (some (.own ds)))
      | none => .no
    | false => .no
  | .aug i o a, e => match e[i]? with
    | some (some (.val x)) => (den C a e).bind fun y e => match augop o x y with
      | some z => .ok .nx (e.set i (some (.val z)))
      | none => .no
    | _ => .no
  | .augix i k o a, e => match ioOk (some i) e with
    | true => (den C k e).bind fun y e => match (getO e i).bind fun ds => ixop (.lst ds) y with
      | some x => (den C a e).bind fun w e => match (augop o x w).bind fun z => (getO e i).bind fun ds => setAt ds y z with
        | some ds => .ok .nx (e.set i (some (.own ds)))
        | none => .no
      | none => .no
    | false => .no
  | .app i a, e => match ioOk (some i) e with
    | false => .no
    | true => (den C a e).bind fun d e => match getO e i with
    | some ds => if ds.length < lim then .ok .nx (e.set i (some (.own (ds ++ [d])))) else .no
    | none => .no
  | .ret a, e => (den C a e).bind fun d e => .ok (.rt d) e
  | .retN, e => .ok (.rt .non) e
  | .ite c a b, e => (den C c e).bind fun x e => R.way x (denS C a e) (denS C b e)
  | .whl c b, e => loopW (den C c) (denS C b) C.fuel e
  | .for_ t src b, e => (denL C src e).bind fun ds e => loopF t (denS C b) ds e
  | .brk, e => .ok .bk e
  | .cnt, e => .ok .ct e
  | .pass, e => .ok .nx e
  | .never, _ => .no
/-! ### defs -/
structure Fn where
  np : Nat
  ns : Nat
  io : Bool
  body : Sm
def endOf (io : Bool) (d : D) (e : Env) : O := match io with
  | false => .ok d []
  | true => match getO e 0 with
    | some cs => .ok d cs
    | none => .no
def runFn (C : Ctx) (F : Fn) (args : List Sl) : O :=
  match denS C F.body (args.map some ++ List.replicate (F.ns - F.np) none) with
  | .ok .nx e => endOf F.io .non e
  | .ok (.rt d) e => endOf F.io d e
  | .ex x _ => match F.io with
    | false => .ex x
    | true => .no
  | _ => .no
def argsFit (F : Fn) : List Sl → Bool
  | args => args.length == F.np && (match args with
    | .own _ :: r => F.io && r.all fun | .val _ => true | _ => false
    | r => !F.io && r.all fun | .val _ => true | _ => false)
/-- the calls of a table of defs, n deep -/
def callN (glob : Nat → D) (fuel : Nat) (tbl : List Fn) : Nat → Call
  | 0, _, _ => .no
  | n + 1, f, args => match tbl[f]? with
    | none => .no
    | some F => if argsFit F args = true then runFn ⟨callN glob fuel tbl n, glob, fuel⟩ F args else .no
end Ev
set_option Elab.async false
set_option linter.all false
set_option maxRecDepth 100000
set_option maxHeartbeats 4000000
set_option autoImplicit false
/-! Ev1: how plain values stand in the abstract heap. -/
namespace Ev
open PySem PySem.Spec PyProof.Rows L2
section
variable (K : PySem.W.Frag)
/-- a list of the module's own -/
def KL (a : Addr) (vs : List V) : Prop := ∃ (o : Obj) (its : Array Value) (n : Nat), K.lookup a = some o ∧ o.cls = .type "list" ∧ o.dict = none ∧ o.data = .seq its n ∧ its.size ≤ sizeLine ∧ Vals vs its.toList
mutual
/-- the value v is the plain value d; none of its lists is among O -/
def Rp (O : Addr → Prop) (H : Hp) : D → V → Prop
  | .non, v => v = .non
  | .bl b, v => v = .bl b
  | .int i, v => v = .int i
  | .str x, v => v = .str x
  | .tup ds, v => ∃ a vs, v = .ref a ∧ SqT K H a vs ∧ Rps O H ds vs
  | .lst ds, v => ∃ a vs, v = .ref a ∧ ¬ O a ∧ H a = some (.lst vs) ∧ Rps O H ds vs
  | .fz ds, v => ∃ a vs, v = .ref a ∧ (KL K a vs ∨ ∃ o, H a = some (.frz o (.lst vs))) ∧ Rps O H ds vs
def Rps (O : Addr → Prop) (H : Hp) : List D → List V → Prop
  | [], vs => vs = []
  | d :: ds, vs => ∃ v r, vs = v :: r ∧ Rp O H d v ∧ Rps O H ds r
end
end
section
variable {K : PySem.W.Frag} {O O' : Addr → Prop} {H H' : Hp}
/-- what is not among S stays; those of S are lists -/
structure Fr (S : Addr → Prop) (H H' : Hp) : Prop where
  fr : ∀ a o, H a = some o → ¬ S a → H' a = some o
  ls : ∀ a, S a → ∃ vs, H a = some (.lst vs)
theorem Fr.sqT {S : Addr → Prop} (f : Fr S H H') {a : Addr} {vs : List V} (h : SqT K H a vs) : SqT K H' a vs := by
  have no : ∀ u, H a = some u → (∀ xs, u ≠ .lst xs) → ¬ S a := fun u e n s => by
    obtain ⟨xs, q⟩ := f.ls a s
    rw [e] at q
    exact n xs (Option.some.inj q)
  rcases h with (h | ⟨o, h⟩) | h
  · exact .inl (.inl (f.fr _ _ h (no _ h fun _ z => by cases z)))
  · exact .inl (.inr ⟨o, f.fr _ _ h (no _ h fun _ z => by cases z)⟩)
  · exact .inr h
mutual
theorem Rp.mono {S : Addr → Prop} (f : Fr S H H') (hS : ∀ a, S a → O a) (hO : ∀ a, O' a → O a ∨ H a = none) : ∀ {d : D} {v : V}, Rp K O H d v → Rp K O' H' d v
  | .non, v, h => by unfold Rp at h ⊢; exact h
  | .bl b, v, h => by unfold Rp at h ⊢; exact h
  | .int i, v, h => by unfold Rp at h ⊢; exact h
  | .str x, v, h => by unfold Rp at h ⊢; exact h
  | .tup ds, v, h => by
    unfold Rp at h ⊢
    obtain ⟨a, vs, e, s, r⟩ := h
    exact ⟨a, vs, e, f.sqT s, Rps.mono f hS hO r⟩
  | .lst ds, v, h => by
    unfold Rp at h ⊢
    obtain ⟨a, vs, e, n, s, r⟩ := h
    refine ⟨a, vs, e, fun z => ?_, f.fr _ _ s (fun z => n (hS a z)), Rps.mono f hS hO r⟩
    rcases hO a z with q | q
    · exact n q
    · rw [s] at q; cases q
  | .fz ds, v, h => by
    unfold Rp at h ⊢
    obtain ⟨a, vs, e, s, r⟩ := h
    refine ⟨a, vs, e, ?_, Rps.mono f hS hO r⟩
    rcases s with s | ⟨o, s⟩
    · exact .inl s
    · refine .inr ⟨o, f.fr _ _ s fun z => ?_⟩
      obtain ⟨ws, q⟩ := f.ls a z
      rw [s] at q; cases q
theorem Rps.mono {S : Addr → Prop} (f : Fr S H H') (hS : ∀ a, S a → O a) (hO : ∀ a, O' a → O a ∨ H a = none) : ∀ {ds : List D} {vs : List V}, Rps K O H ds vs → Rps K O' H' ds vs
  | [], vs, h => by unfold Rps at h ⊢; exact h
  | d :: ds, vs, h => by
    unfold Rps at h ⊢
    obtain ⟨v, r, e, h1, h2⟩ := h
    exact ⟨v, r, e, Rp.mono f hS hO h1, Rps.mono f hS hO h2⟩
end
theorem Rps.nil : Rps K O H [] [] := by unfold Rps; rfl
theorem Rps.cons {d : D} {v : V} {ds : List D} {vs : List V} (h : Rp K O H d v) (r : Rps K O H ds vs) : Rps K O H (d :: ds) (v :: vs) := by
  unfold Rps
  exact ⟨v, vs, rfl, h, r⟩
theorem Rps.uncons {d : D} {ds : List D} {vs : List V} (h : Rps K O H (d :: ds) vs) : ∃ v r, vs = v :: r ∧ Rp K O H d v ∧ Rps K O H ds r := by
  unfold Rps at h
  exact h
theorem Rps.unnil {vs : List V} (h : Rps K O H [] vs) : vs = [] := by
  unfold Rps at h
  exact h
theorem Rps.len : ∀ {ds : List D} {vs : List V}, Rps K O H ds vs → ds.length = vs.length
  | [], vs, h => by rw [h.unnil]; rfl
  | d :: ds, vs, h => by
    obtain ⟨v, r, e, _, h2⟩ := h.uncons
    rw [e, List.length_cons, List.length_cons, h2.len]
theorem Rps.get : ∀ {ds : List D} {vs : List V} {i : Nat} {d : D}, Rps K O H ds vs → ds[i]? = some d → ∃ v, vs[i]? = some v ∧ Rp K O H d v
  | [], _, _, _, _, e => by simp at e
  | x :: ds, vs, 0, d, h, e => by
    obtain ⟨v, r, e1, h1, _⟩ := h.uncons
    simp at e
    subst e e1
    exact ⟨v, rfl, h1⟩
  | x :: ds, vs, i + 1, d, h, e => by
    obtain ⟨v, r, e1, _, h2⟩ := h.uncons
    subst e1
    obtain ⟨u, q1, q2⟩ := h2.get (i := i) (by simpa using e)
    exact ⟨u, by simpa using q1, q2⟩
theorem Rps.app : ∀ {ds es : List D} {vs us : List V}, Rps K O H ds vs → Rps K O H es us → Rps K O H (ds ++ es) (vs ++ us)
  | [], es, vs, us, h, q => by rw [h.unnil]; exact q
  | d :: ds, es, vs, us, h, q => by
    obtain ⟨v, r, e1, h1, h2⟩ := h.uncons
    subst e1
    exact .cons h1 (h2.app q)
theorem Rps.take : ∀ (n : Nat) {ds : List D} {vs : List V}, Rps K O H ds vs → Rps K O H (ds.take n) (vs.take n)
  | 0, ds, vs, h => by simpa using Rps.nil
  | n + 1, [], vs, h => by rw [h.unnil]; simpa using Rps.nil
  | n + 1, d :: ds, vs, h => by
    obtain ⟨v, r, e1, h1, h2⟩ := h.uncons
    subst e1
    exact .cons h1 (h2.take n)
theorem Rps.drop : ∀ (n : Nat) {ds : List D} {vs : List V}, Rps K O H ds vs → Rps K O H (ds.drop n) (vs.drop n)
  | 0, ds, vs, h => by simpa using h
  | n + 1, [], vs, h => by rw [h.unnil]; simpa using Rps.nil
  | n + 1, d :: ds, vs, h => by
    obtain ⟨v, r, e1, h1, h2⟩ := h.uncons
    subst e1
    exact h2.drop n
theorem Rps.set {d : D} {v : V} (q : Rp K O H d v) : ∀ (n : Nat) {ds : List D} {vs : List V}, Rps K O H ds vs → Rps K O H (ds.set n d) (vs.set n v)
  | n, [], vs, h => by rw [h.unnil]; simpa using Rps.nil
  | 0, x :: ds, vs, h => by
    obtain ⟨u, r, e1, h1, h2⟩ := h.uncons
    subst e1
    exact .cons q h2
  | n + 1, x :: ds, vs, h => by
    obtain ⟨u, r, e1, h1, h2⟩ := h.uncons
    subst e1
    exact .cons h1 (h2.set q n)
theorem Rps.ints : ∀ (ns : List Int), Rps K O H (ns.map D.int) (ns.map V.int)
  | [] => .nil
  | n :: ns => .cons (by unfold Rp; rfl) (Rps.ints ns)

/-! ### slots -/
def OwnAt (e : Env) (σ : L2.St) (a : Addr) : Prop := ∃ (i : Nat) (ds : List D), e[i]? = some (some (Sl.own ds)) ∧ σ[i]? = some (some (V.ref a))
/-- what must not be among a value's lists -/
def Of (B : Addr → Prop) (e : Env) (σ : L2.St) : Addr → Prop := fun a => B a ∨ OwnAt e σ a
structure RSt (K : PySem.W.Frag) (B : Addr → Prop) (H : Hp) (e : Env) (σ : L2.St) : Prop where
  len : e.length = σ.length
  val : ∀ (i : Nat) (d : D), e[i]? = some (some (Sl.val d)) → ∃ v, σ[i]? = some (some v) ∧ Rp K (Of B e σ) H d v
  own : ∀ (i : Nat) (ds : List D), e[i]? = some (some (Sl.own ds)) → ∃ a vs, σ[i]? = some (some (V.ref a)) ∧ ¬ B a ∧ H a = some (.lst vs) ∧ Rps K (Of B e σ) H ds vs
  inj : ∀ (i j : Nat) (ds es : List D) (a : Addr), e[i]? = some (some (Sl.own ds)) → e[j]? = some (some (Sl.own es)) → σ[i]? = some (some (V.ref a)) → σ[j]? = some (some (V.ref a)) → i = j
  bnd : ∀ a, B a → ∃ vs, H a = some (.lst vs)
structure Stp (H : Hp) (e : Env) (σ : L2.St) (H' : Hp) (e' : Env) (σ' : L2.St) : Prop where
  fr : ∀ a o, H a = some o → ¬ OwnAt e σ a → H' a = some o
  al : ∀ a, H a ≠ none → H' a ≠ none
  sub : ∀ a, OwnAt e' σ' a → OwnAt e σ a ∨ H a = none
theorem Stp.refl {e : Env} {σ : L2.St} : Stp H e σ H e σ := ⟨fun _ _ h _ => h, fun _ h => h, fun _ h => .inl h⟩
theorem Stp.trans {H1 H2 : Hp} {e e1 e2 : Env} {σ σ1 σ2 : L2.St} (s : Stp H e σ H1 e1 σ1) (t : Stp H1 e1 σ1 H2 e2 σ2) : Stp H e σ H2 e2 σ2 where
  fr := fun a o h n => t.fr a o (s.fr a o h n) fun z => by
    rcases s.sub a z with q | q
    · exact n q
    · rw [q] at h; cases h
  al := fun a h => t.al a (s.al a h)
  sub := fun a h => by
    rcases t.sub a h with q | q
    · exact s.sub a q
    · refine .inr ?_
      cases z : H a with
      | none => rfl
      | some o => exact absurd q (s.al a (by rw [z]; exact fun w => by cases w))
section
variable {B : Addr → Prop} {e e' : Env} {σ σ' : L2.St}
theorem RSt.ls (r : RSt K B H e σ) {a : Addr} (h : OwnAt e σ a) : ∃ vs, H a = some (.lst vs) := by
  obtain ⟨i, ds, h1, h2⟩ := h
  obtain ⟨b, vs, q1, _, q2, _⟩ := r.own i ds h1
  rw [h2] at q1
  cases q1
  exact ⟨vs, q2⟩
theorem RSt.ofs (r : RSt K B H e σ) {a : Addr} (h : Of B e σ a) : ∃ vs, H a = some (.lst vs) := by
  rcases h with h | h
  · exact r.bnd a h
  · exact r.ls h
theorem RSt.frame (r : RSt K B H e σ) {e' : Env} {σ' : L2.St} (s : Stp H e σ H' e' σ') : Fr (OwnAt e σ) H H' := ⟨s.fr, fun _ q => r.ls q⟩
theorem Stp.of_ (s : Stp H e σ H' e' σ') (a : Addr) (h : Of B e' σ' a) : Of B e σ a ∨ H a = none := by
  rcases h with h | h
  · exact .inl (.inl h)
  · rcases s.sub a h with q | q
    · exact .inl (.inr q)
    · exact .inr q
/-- values of before, behind a step -/
theorem RSt.keep (r : RSt K B H e σ) (s : Stp H e σ H' e' σ') {d : D} {v : V} (h : Rp K (Of B e σ) H d v) : Rp K (Of B e' σ') H' d v :=
  Rp.mono (r.frame s) (fun a q => .inr q) s.of_ h
theorem RSt.keeps (r : RSt K B H e σ) (s : Stp H e σ H' e' σ') {ds : List D} {vs : List V} (h : Rps K (Of B e σ) H ds vs) : Rps K (Of B e' σ') H' ds vs :=
  Rps.mono (r.frame s) (fun a q => .inr q) s.of_ h
theorem own_set_val {i j : Nat} {d : D} {ds : List D} (h : (e.set i (some (Sl.val d)))[j]? = some (some (Sl.own ds))) : j ≠ i ∧ e[j]? = some (some (Sl.own ds)) := by
  by_cases q : i = j
  · subst q
    rw [List.getElem?_set] at h
    simp at h
  · rw [List.getElem?_set_ne q] at h
    exact ⟨fun z => q z.symm, h⟩
/-- an own list is let known: it is a plain value from now on -/
theorem RSt.freeze (r : RSt K B H e σ) {i : Nat} {ds : List D} (h : e[i]? = some (some (Sl.own ds))) :
    RSt K B H (e.set i (some (Sl.val (.lst ds)))) σ ∧ Stp H e σ H (e.set i (some (Sl.val (.lst ds)))) σ ∧ ∃ v, σ[i]? = some (some v) ∧ Rp K (Of B (e.set i (some (Sl.val (.lst ds)))) σ) H (.lst ds) v := by
  obtain ⟨a, vs, h1, h2, h3, h4⟩ := r.own i ds h
  have hi : i < e.length := (List.getElem?_eq_some_iff.mp h).1
  have sub : ∀ b, OwnAt (e.set i (some (Sl.val (.lst ds)))) σ b → OwnAt e σ b ∧ b ≠ a := fun b ⟨j, es, q1, q2⟩ => by
    obtain ⟨hj, q⟩ := own_set_val q1
    refine ⟨⟨j, es, q, q2⟩, fun z => hj ?_⟩
    subst z
    exact r.inj j i es ds b q h q2 h1
  have mono : ∀ {d : D} {v : V}, Rp K (Of B e σ) H d v → Rp K (Of B (e.set i (some (Sl.val (.lst ds)))) σ) H d v := fun {d v} q =>
    Rp.mono (S := fun _ => False) ⟨fun _ _ q _ => q, fun _ z => z.elim⟩ (fun _ z => z.elim) (fun b q => .inl (q.elim .inl fun z => .inr (sub b z).1)) q
  have monos : ∀ {es : List D} {us : List V}, Rps K (Of B e σ) H es us → Rps K (Of B (e.set i (some (Sl.val (.lst ds)))) σ) H es us := fun {es us} q =>
    Rps.mono (S := fun _ => False) ⟨fun _ _ q _ => q, fun _ z => z.elim⟩ (fun _ z => z.elim) (fun b q => .inl (q.elim .inl fun z => .inr (sub b z).1)) q
  have me : Rp K (Of B (e.set i (some (Sl.val (.lst ds)))) σ) H (.lst ds) (V.ref a) := by
    unfold Rp
    refine ⟨a, vs, rfl, fun z => ?_, h3, monos h4⟩
    rcases z with z | z
    · exact h2 z
    · exact (sub a z).2 rfl
  refine ⟨⟨by rw [List.length_set]; exact r.len, fun j d q => ?_, fun j es q => ?_, fun j k es fs b q1 q2 q3 q4 => ?_, r.bnd⟩, ⟨fun _ _ q _ => q, fun _ q => q, fun b q => .inl (sub b q).1⟩, .ref a, h1, me⟩
  · by_cases hj : i = j
    · subst hj
      rw [List.getElem?_set_self hi] at q
      cases q
      exact ⟨.ref a, h1, me⟩
    · rw [List.getElem?_set_ne hj] at q
      obtain ⟨v, w1, w2⟩ := r.val j d q
      exact ⟨v, w1, mono w2⟩
  · obtain ⟨hj, q'⟩ := own_set_val q
    obtain ⟨b, us, w1, w2, w3, w4⟩ := r.own j es q'
    exact ⟨b, us, w1, w2, w3, monos w4⟩
  · exact r.inj j k es fs b (own_set_val q1).2 (own_set_val q2).2 q3 q4
/-- a name stored -/
theorem RSt.put (r : RSt K B H e σ) {i : Nat} {d : D} {v : V} (h : Rp K (Of B e σ) H d v) : RSt K B H (e.set i (some (Sl.val d))) (σ.set i (some v)) ∧ Stp H e σ H (e.set i (some (Sl.val d))) (σ.set i (some v)) := by
  have sub : ∀ b, OwnAt (e.set i (some (Sl.val d))) (σ.set i (some v)) b → OwnAt e σ b := fun b ⟨j, es, q1, q2⟩ => by
    obtain ⟨hj, q⟩ := own_set_val q1
    rw [List.getElem?_set_ne (Ne.symm hj)] at q2
    exact ⟨j, es, q, q2⟩
  have mono : ∀ {d' : D} {v' : V}, Rp K (Of B e σ) H d' v' → Rp K (Of B (e.set i (some (Sl.val d))) (σ.set i (some v))) H d' v' := fun {d' v'} q =>
    Rp.mono (S := fun _ => False) ⟨fun _ _ q _ => q, fun _ z => z.elim⟩ (fun _ z => z.elim) (fun b q => .inl (q.elim .inl fun z => .inr (sub b z))) q
  have monos : ∀ {es : List D} {us : List V}, Rps K (Of B e σ) H es us → Rps K (Of B (e.set i (some (Sl.val d))) (σ.set i (some v))) H es us := fun {es us} q =>
    Rps.mono (S := fun _ => False) ⟨fun _ _ q _ => q, fun _ z => z.elim⟩ (fun _ z => z.elim) (fun b q => .inl (q.elim .inl fun z => .inr (sub b z))) q
  refine ⟨⟨by rw [List.length_set, List.length_set]; exact r.len, fun j d' q => ?_, fun j es q => ?_, fun j k es fs b q1 q2 q3 q4 => ?_, r.bnd⟩, ⟨fun _ _ q _ => q, fun _ q => q, fun b q => .inl (sub b q)⟩⟩
  · by_cases hj : i = j
    · subst hj
      have hi : i < e.length := by
        have := (List.getElem?_eq_some_iff.mp q).1
        rwa [List.length_set] at this
      rw [List.getElem?_set_self hi] at q
      cases q
      exact ⟨v, by rw [List.getElem?_set_self (by rw [← r.len]; exact hi)], mono h⟩
    · rw [List.getElem?_set_ne hj] at q
      obtain ⟨v', w1, w2⟩ := r.val j d' q
      exact ⟨v', by rw [List.getElem?_set_ne hj]; exact w1, mono w2⟩
  · obtain ⟨hj, q'⟩ := own_set_val q
    obtain ⟨b, us, w1, w2, w3, w4⟩ := r.own j es q'
    exact ⟨b, us, by rw [List.getElem?_set_ne (Ne.symm hj)]; exact w1, w2, w3, monos w4⟩
  · obtain ⟨hj, q1'⟩ := own_set_val q1
    obtain ⟨hk, q2'⟩ := own_set_val q2
    rw [List.getElem?_set_ne (Ne.symm hj)] at q3
    rw [List.getElem?_set_ne (Ne.symm hk)] at q4
    exact r.inj j k es fs b q1' q2' q3 q4
theorem own_set_own {i j : Nat} {ds es : List D} (h : (e.set i (some (Sl.own ds)))[j]? = some (some (Sl.own es))) : (j = i ∧ es = ds ∧ i < e.length) ∨ (j ≠ i ∧ e[j]? = some (some (Sl.own es))) := by
  by_cases q : i = j
  · subst q
    rw [List.getElem?_set] at h
    simp at h
    exact .inl ⟨rfl, h.2.symm, h.1⟩
  · rw [List.getElem?_set_ne q] at h
    exact .inr ⟨fun z => q z.symm, h⟩
/-- an own list is written -/
theorem RSt.write (r : RSt K B H e σ) {i : Nat} {ds es : List D} {a : Addr} {us : List V} (h : e[i]? = some (some (Sl.own ds))) (ha : σ[i]? = some (some (V.ref a))) (hr : Rps K (Of B e σ) H es us) :
    RSt K B (upd H a (.lst us)) (e.set i (some (Sl.own es))) σ ∧ Stp H e σ (upd H a (.lst us)) (e.set i (some (Sl.own es))) σ := by
  obtain ⟨a', vs, h1, h2, h3, h4⟩ := r.own i ds h
  rw [ha] at h1
  cases h1
  have hi : i < e.length := (List.getElem?_eq_some_iff.mp h).1
  have sub : ∀ b, OwnAt (e.set i (some (Sl.own es))) σ b → OwnAt e σ b := fun b ⟨j, fs, q1, q2⟩ => by
    rcases own_set_own q1 with ⟨rfl, rfl, _⟩ | ⟨_, q⟩
    · exact ⟨j, ds, h, q2⟩
    · exact ⟨j, fs, q, q2⟩
  have fr : Fr (fun b => b = a) H (upd H a (.lst us)) := ⟨fun b o q n => by rw [upd_ne n]; exact q, fun b z => ⟨vs, by rw [z]; exact h3⟩⟩
  have oa : ∀ b, b = a → Of B e σ b := fun b z => .inr ⟨i, ds, h, by rw [z]; exact ha⟩
  have mono : ∀ {d' : D} {v' : V}, Rp K (Of B e σ) H d' v' → Rp K (Of B (e.set i (some (Sl.own es))) σ) (upd H a (.lst us)) d' v' := fun {d' v'} q =>
    Rp.mono fr oa (fun b q => .inl (q.elim .inl fun z => .inr (sub b z))) q
  have monos : ∀ {es' : List D} {us' : List V}, Rps K (Of B e σ) H es' us' → Rps K (Of B (e.set i (some (Sl.own es))) σ) (upd H a (.lst us)) es' us' := fun {es' us'} q =>
    Rps.mono fr oa (fun b q => .inl (q.elim .inl fun z => .inr (sub b z))) q
  refine ⟨⟨by rw [List.length_set]; exact r.len, fun j d q => ?_, fun j fs q => ?_, fun j k fs gs b q1 q2 q3 q4 => ?_, fun b q => ?_⟩, ⟨fun b o q n => ?_, fun b q => ?_, fun b q => .inl (sub b q)⟩⟩
  · by_cases hj : i = j
    · subst hj
      rw [List.getElem?_set_self hi] at q
      cases q
    · rw [List.getElem?_set_ne hj] at q
      obtain ⟨v, w1, w2⟩ := r.val j d q
      exact ⟨v, w1, mono w2⟩
  · rcases own_set_own q with ⟨rfl, rfl, _⟩ | ⟨hj, q'⟩
    · exact ⟨a, us, ha, h2, upd_same, monos hr⟩
    · obtain ⟨b, ws, w1, w2, w3, w4⟩ := r.own j fs q'
      have hb : b ≠ a := fun z => hj (r.inj j i fs ds a q' h (by rw [w1, z]) ha)
      exact ⟨b, ws, w1, w2, by rw [upd_ne hb]; exact w3, monos w4⟩
  · have back : ∀ {j : Nat} {fs : List D}, (e.set i (some (Sl.own es)))[j]? = some (some (Sl.own fs)) → ∃ gs, e[j]? = some (some (Sl.own gs)) := fun {j fs} q => by
      rcases own_set_own q with ⟨rfl, rfl, _⟩ | ⟨_, q⟩
      · exact ⟨_, h⟩
      · exact ⟨_, q⟩
    obtain ⟨_, z1⟩ := back q1
    obtain ⟨_, z2⟩ := back q2
    exact r.inj j k _ _ b z1 z2 q3 q4
  · by_cases hb : b = a
    · exact ⟨us, by rw [hb]; exact upd_same⟩
    · obtain ⟨ws, w⟩ := r.bnd b q
      exact ⟨ws, by rw [upd_ne hb]; exact w⟩
  · have hb : b ≠ a := fun z => n ⟨i, ds, h, by rw [z]; exact ha⟩
    rw [upd_ne hb]
    exact q
  · by_cases hb : b = a
    · rw [hb, upd_same]
      exact fun z => by cases z
    · rw [upd_ne hb]
      exact q
/-- a new object is laid -/
theorem RSt.laid (r : RSt K B H e σ) {p : Addr} {o : HO} (hp : H p = none) : RSt K B (upd H p o) e σ ∧ Stp H e σ (upd H p o) e σ := by
  have fr : Fr (fun _ => False) H (upd H p o) := ⟨fun b u q _ => by rw [upd_ne (ne_of_none q hp)]; exact q, fun _ z => z.elim⟩
  have mono : ∀ {d' : D} {v' : V}, Rp K (Of B e σ) H d' v' → Rp K (Of B e σ) (upd H p o) d' v' := fun {d' v'} q => Rp.mono fr (fun _ z => z.elim) (fun b q => .inl q) q
  have monos : ∀ {es' : List D} {us' : List V}, Rps K (Of B e σ) H es' us' → Rps K (Of B e σ) (upd H p o) es' us' := fun {es' us'} q => Rps.mono fr (fun _ z => z.elim) (fun b q => .inl q) q
  refine ⟨⟨r.len, fun j d q => ?_, fun j fs q => ?_, r.inj, fun b q => ?_⟩, ⟨fun b u q _ => fr.fr b u q fun z => z, fun b q => ?_, fun b q => .inl q⟩⟩
  · obtain ⟨v, w1, w2⟩ := r.val j d q
    exact ⟨v, w1, mono w2⟩
  · obtain ⟨b, ws, w1, w2, w3, w4⟩ := r.own j fs q
    exact ⟨b, ws, w1, w2, fr.fr _ _ w3 fun z => z, monos w4⟩
  · obtain ⟨ws, w⟩ := r.bnd b q
    exact ⟨ws, fr.fr _ _ w fun z => z⟩
  · unfold upd
    split
    · exact fun z => by cases z
    · exact q
/-- a new list becomes a slot's own -/
theorem RSt.take (r : RSt K B H e σ) {i : Nat} {ds : List D} {p : Addr} {us : List V} (hp : H p = none) (hr : Rps K (Of B e σ) H ds us) :
    RSt K B (upd H p (.lst us)) (e.set i (some (Sl.own ds))) (σ.set i (some (V.ref p))) ∧ Stp H e σ (upd H p (.lst us)) (e.set i (some (Sl.own ds))) (σ.set i (some (V.ref p))) := by
  have sub : ∀ b, OwnAt (e.set i (some (Sl.own ds))) (σ.set i (some (V.ref p))) b → OwnAt e σ b ∨ b = p := fun b ⟨j, fs, q1, q2⟩ => by
    rcases own_set_own q1 with ⟨rfl, rfl, _⟩ | ⟨hj, q⟩
    · rw [List.getElem?_set] at q2
      simp at q2
      exact .inr q2.2.symm
    · rw [List.getElem?_set_ne (Ne.symm hj)] at q2
      exact .inl ⟨j, fs, q, q2⟩
  have fr : Fr (fun _ => False) H (upd H p (.lst us)) := ⟨fun b u q _ => by rw [upd_ne (ne_of_none q hp)]; exact q, fun _ z => z.elim⟩
  have ofs : ∀ b, Of B (e.set i (some (Sl.own ds))) (σ.set i (some (V.ref p))) b → Of B e σ b ∨ H b = none := fun b q => by
    rcases q with q | q
    · exact .inl (.inl q)
    · rcases sub b q with z | z
      · exact .inl (.inr z)
      · exact .inr (by rw [z]; exact hp)
  have mono : ∀ {d' : D} {v' : V}, Rp K (Of B e σ) H d' v' → Rp K (Of B (e.set i (some (Sl.own ds))) (σ.set i (some (V.ref p)))) (upd H p (.lst us)) d' v' := fun {d' v'} q => Rp.mono fr (fun _ z => z.elim) ofs q
  have monos : ∀ {es' : List D} {us' : List V}, Rps K (Of B e σ) H es' us' → Rps K (Of B (e.set i (some (Sl.own ds))) (σ.set i (some (V.ref p)))) (upd H p (.lst us)) es' us' := fun {es' us'} q => Rps.mono fr (fun _ z => z.elim) ofs q
  refine ⟨⟨by rw [List.length_set, List.length_set]; exact r.len, fun j d q => ?_, fun j fs q => ?_, fun j k fs gs b q1 q2 q3 q4 => ?_, fun b q => ?_⟩, ⟨fun b u q _ => fr.fr b u q fun z => z, fun b q => ?_, fun b q => (sub b q).imp id fun z => by rw [z]; exact hp⟩⟩
  · by_cases hj : i = j
    · subst hj
      have hi : i < e.length := by
        have := (List.getElem?_eq_some_iff.mp q).1
        rwa [List.length_set] at this
      rw [List.getElem?_set_self hi] at q
      cases q
    · rw [List.getElem?_set_ne hj] at q
      obtain ⟨v, w1, w2⟩ := r.val j d q
      exact ⟨v, by rw [List.getElem?_set_ne hj]; exact w1, mono w2⟩
  · rcases own_set_own q with ⟨rfl, rfl, hi⟩ | ⟨hj, q'⟩
    · refine ⟨p, us, by rw [List.getElem?_set_self (by rw [← r.len]; exact hi)], fun z => ?_, upd_same, monos hr⟩
      obtain ⟨ws, w⟩ := r.bnd p z
      rw [hp] at w; cases w
    · obtain ⟨b, ws, w1, w2, w3, w4⟩ := r.own j fs q'
      exact ⟨b, ws, by rw [List.getElem?_set_ne (Ne.symm hj)]; exact w1, w2, fr.fr _ _ w3 fun z => z, monos w4⟩
  · have neq : ∀ {j : Nat} {fs : List D} {b : Addr}, j ≠ i → (e.set i (some (Sl.own ds)))[j]? = some (some (Sl.own fs)) → (σ.set i (some (V.ref p)))[j]? = some (some (V.ref b)) → b ≠ p := fun {j fs b} hj q1 q2 z => by
      rcases own_set_own q1 with ⟨w, _⟩ | ⟨_, q⟩
      · exact hj w
      · rw [List.getElem?_set_ne (Ne.symm hj)] at q2
        obtain ⟨ws, w⟩ := r.ls ⟨j, fs, q, q2⟩
        rw [z, hp] at w; cases w
    have isp : ∀ {b : Addr}, (σ.set i (some (V.ref p)))[i]? = some (some (V.ref b)) → b = p := fun {b} q => by
      rw [List.getElem?_set] at q
      simp at q
      exact q.2.symm
    by_cases hj : j = i
    · by_cases hk : k = i
      · rw [hj, hk]
      · exact absurd (by rw [hj] at q3; exact isp q3) (neq hk q2 q4)
    · by_cases hk : k = i
      · exact absurd (by rw [hk] at q4; exact isp q4) (neq hj q1 q3)
      · rcases own_set_own q1 with ⟨w, _⟩ | ⟨_, z1⟩
        · exact absurd w hj
        rcases own_set_own q2 with ⟨w, _⟩ | ⟨_, z2⟩
        · exact absurd w hk
        rw [List.getElem?_set_ne (Ne.symm hj)] at q3
        rw [List.getElem?_set_ne (Ne.symm hk)] at q4
        exact r.inj j k _ _ b z1 z2 q3 q4
  · obtain ⟨ws, w⟩ := r.bnd b q
    exact ⟨ws, fr.fr _ _ w fun z => z⟩
  · unfold upd
    split
    · exact fun z => by cases z
    · exact q
end
end
end Ev
set_option Elab.async false
set_option linter.all false
set_option maxRecDepth 100000
set_option maxHeartbeats 4000000
set_option autoImplicit false
/-! Ev2: the operations, by values. -/
namespace Ev
open PySem PySem.Spec PyProof.Rows L2
section
variable {K : PySem.W.Frag} {O : Addr → Prop} {H H' : Hp}
theorem lim_line : lim ≤ sizeLine := by rw [sizeLine_eq]; decide
theorem Fr.fresh {p : Addr} {o : HO} (hp : H p = none) : Fr (fun _ => False) H (upd H p o) := ⟨fun b u q _ => by rw [upd_ne (ne_of_none q hp)]; exact q, fun _ z => z.elim⟩
theorem Rp.fresh {p : Addr} {o : HO} (hp : H p = none) {d : D} {v : V} (h : Rp K O H d v) : Rp K O (upd H p o) d v := Rp.mono (Fr.fresh hp) (fun _ z => z.elim) (fun _ z => .inl z) h
theorem Rps.fresh {p : Addr} {o : HO} (hp : H p = none) {ds : List D} {vs : List V} (h : Rps K O H ds vs) : Rps K O (upd H p o) ds vs := Rps.mono (Fr.fresh hp) (fun _ z => z.elim) (fun _ z => .inl z) h
theorem Rp.non : Rp K O H .non .non := by unfold Rp; rfl
theorem Rp.bl (b : Bool) : Rp K O H (.bl b) (.bl b) := by unfold Rp; rfl
theorem Rp.int (i : Int) : Rp K O H (.int i) (.int i) := by unfold Rp; rfl
theorem Rp.str (x : Str) : Rp K O H (.str x) (.str x) := by unfold Rp; rfl
theorem Rp.unint {i : Int} {v : V} (h : Rp K O H (.int i) v) : v = .int i := by unfold Rp at h; exact h
theorem Rp.unbl {b : Bool} {v : V} (h : Rp K O H (.bl b) v) : v = .bl b := by unfold Rp at h; exact h
theorem Rp.unstr {x : Str} {v : V} (h : Rp K O H (.str x) v) : v = .str x := by unfold Rp at h; exact h
theorem Rp.unnon {v : V} (h : Rp K O H .non v) : v = .non := by unfold Rp at h; exact h
theorem Rp.untup {ds : List D} {v : V} (h : Rp K O H (.tup ds) v) : ∃ a vs, v = .ref a ∧ SqT K H a vs ∧ Rps K O H ds vs := by unfold Rp at h; exact h
theorem Rp.unlst {ds : List D} {v : V} (h : Rp K O H (.lst ds) v) : ∃ a vs, v = .ref a ∧ ¬ O a ∧ H a = some (.lst vs) ∧ Rps K O H ds vs := by unfold Rp at h; exact h
theorem Rp.unfz {ds : List D} {v : V} (h : Rp K O H (.fz ds) v) : ∃ a vs, v = .ref a ∧ SqL K H a vs ∧ Rps K O H ds vs := by
  unfold Rp at h
  obtain ⟨a, vs, e, s, r⟩ := h
  refine ⟨a, vs, e, ?_, r⟩
  rcases s with s | ⟨o, s⟩
  · exact .inr s
  · exact .inl (.inr ⟨o, s⟩)
theorem Rp.tup {ds : List D} {a : Addr} {vs : List V} (s : SqT K H a vs) (r : Rps K O H ds vs) : Rp K O H (.tup ds) (.ref a) := by unfold Rp; exact ⟨a, vs, rfl, s, r⟩
theorem Rp.lst {ds : List D} {a : Addr} {vs : List V} (n : ¬ O a) (s : H a = some (.lst vs)) (r : Rps K O H ds vs) : Rp K O H (.lst ds) (.ref a) := by unfold Rp; exact ⟨a, vs, rfl, n, s, r⟩
/-- a new tuple, a new list -/
theorem Rp.newT {ds : List D} {p : Addr} {vs : List V} (hp : H p = none) (r : Rps K O H ds vs) : Rp K O (upd H p (.tup vs)) (.tup ds) (.ref p) := .tup (.inl (.inl upd_same)) (r.fresh hp)
theorem Rp.newL {ds : List D} {p : Addr} {vs : List V} (hO : ∀ a, O a → H a ≠ none) (hp : H p = none) (r : Rps K O H ds vs) : Rp K O (upd H p (.lst vs)) (.lst ds) (.ref p) := .lst (fun z => hO p z hp) upd_same (r.fresh hp)

theorem Rps.rep {ds : List D} {vs : List V} (r : Rps K O H ds vs) : ∀ n : Nat, Rps K O H (List.replicate n ds).flatten (List.replicate n vs).flatten
  | 0 => .nil
  | n + 1 => by
    rw [List.replicate_succ, List.replicate_succ, List.flatten_cons, List.flatten_cons]
    exact r.app (Rps.rep r n)
theorem Rps.revAux : ∀ {ds : List D} {vs : List V} {es : List D} {us : List V}, Rps K O H ds vs → Rps K O H es us → Rps K O H (ds.reverseAux es) (vs.reverseAux us)
  | [], vs, es, us, h, q => by rw [h.unnil]; exact q
  | d :: ds, vs, es, us, h, q => by
    obtain ⟨v, r, e1, h1, h2⟩ := h.uncons
    subst e1
    exact h2.revAux (.cons h1 q)
theorem Rps.rev {ds : List D} {vs : List V} (h : Rps K O H ds vs) : Rps K O H ds.reverse vs.reverse := h.revAux .nil
/-- the heap as it was, or one object more -/
def Ext (H H' : Hp) : Prop := H' = H ∨ ∃ p o, H p = none ∧ H' = upd H p o
/-- the wish is met by whatever is the value d -/
def VOk (K : PySem.W.Frag) (O : Addr → Prop) (H : Hp) (d : D) (Q : VK) : Prop := ∀ v H', Ext H H' → Rp K O H' d v → Q v H'
theorem VOk.same {d : D} {Q : VK} (q : VOk K O H d Q) {v : V} (h : Rp K O H d v) : Q v H := q v H (.inl rfl) h
theorem VOk.newT {ds : List D} {Q : VK} (q : VOk K O H (.tup ds) Q) {vs : List V} (r : Rps K O H ds vs) {p : Addr} (hp : H p = none) : Q (.ref p) (upd H p (.tup vs)) := q _ _ (.inr ⟨p, _, hp, rfl⟩) (.newT hp r)
theorem VOk.newL {ds : List D} {Q : VK} (q : VOk K O H (.lst ds) Q) (hO : ∀ a, O a → H a ≠ none) {vs : List V} (r : Rps K O H ds vs) {p : Addr} (hp : H p = none) : Q (.ref p) (upd H p (.lst vs)) := q _ _ (.inr ⟨p, _, hp, rfl⟩) (.newL hO hp r)

/-! ### as the library's data -/
mutual
def toP : D → PyData
  | .non => .none
  | .bl b => .bool b
  | .int i => .int i
  | .str x => .str x
  | .tup ds => .tuple (toPs ds)
  | .lst ds => .list (toPs ds)
  | .fz _ => .none
def toPs : List D → List PyData
  | [] => []
  | d :: ds => toP d :: toPs ds
end
mutual
theorem Rp.dp : ∀ {d : D} {n : Nat} {v : V}, Rp K O H d v → D.sh n d = true → Dp K H v (toP d)
  | .non, _, v, h, _ => by rw [h.unnon]; exact .non
  | .bl b, _, v, h, _ => by rw [h.unbl]; exact .bl b
  | .int i, _, v, h, _ => by rw [h.unint]; exact .int i
  | .str x, _, v, h, _ => by rw [h.unstr]; exact .str x
  | .tup ds, n, v, h, q => by
    obtain ⟨a, vs, rfl, s, r⟩ := h.untup
    exact .tup s (Rps.dp r (n := n) (by simpa [D.sh] using q))
  | .lst ds, n, v, h, q => by
    obtain ⟨a, vs, rfl, _, s, r⟩ := h.unlst
    exact .lst (.inl (.inl s)) (Rps.dp r (n := n) (by simpa [D.sh] using q))
  | .fz ds, n, v, h, q => by simp [D.sh] at q
theorem Rps.dp : ∀ {ds : List D} {n : Nat} {vs : List V}, Rps K O H ds vs → D.shs n ds = true → DpAll K H vs (toPs ds)
  | [], _, vs, h, _ => by rw [h.unnil]; exact .nil
  | d :: ds, 0, vs, h, q => by simp [D.shs] at q
  | d :: ds, n + 1, vs, h, q => by
    obtain ⟨v, r, rfl, h1, h2⟩ := h.uncons
    simp only [D.shs, Bool.and_eq_true] at q
    exact .cons (Rp.dp h1 q.1) (Rps.dp h2 q.2)
end
mutual
theorem sh_lay : ∀ {d : D} {n : Nat}, D.sh n d = true → (toP d).canLay0 = true ∧ (toP d).depth ≤ n + 1
  | .non, _, _ => by simp [toP, PyData.canLay0, PyData.depth]
  | .bl b, _, _ => by simp [toP, PyData.canLay0, PyData.depth]
  | .int i, _, _ => by simp [toP, PyData.canLay0, PyData.depth]
  | .str x, _, q => by
    simp only [D.sh] at q
    refine ⟨?_, by simp [toP, PyData.depth]⟩
    simp only [toP, PyData.canLay0]
    exact q
  | .tup ds, n, q => by
    obtain ⟨h1, h2⟩ := shs_lay (ds := ds) (n := n) (by simpa [D.sh] using q)
    refine ⟨by simpa [toP, PyData.canLay0] using h1, ?_⟩
    simp only [toP, PyData.depth]
    omega
  | .lst ds, n, q => by
    obtain ⟨h1, h2⟩ := shs_lay (ds := ds) (n := n) (by simpa [D.sh] using q)
    refine ⟨by simpa [toP, PyData.canLay0] using h1, ?_⟩
    simp only [toP, PyData.depth]
    omega
  | .fz ds, n, q => by simp [D.sh] at q
theorem shs_lay : ∀ {ds : List D} {n : Nat}, D.shs n ds = true → PyData.canLayAll0 (toPs ds) = true ∧ PyData.depthAll (toPs ds) ≤ n
  | [], n, _ => by simp [toPs, PyData.canLayAll0, PyData.depthAll]
  | d :: ds, 0, q => by simp [D.shs] at q
  | d :: ds, n + 1, q => by
    simp only [D.shs, Bool.and_eq_true] at q
    obtain ⟨h1, h2⟩ := sh_lay q.1
    obtain ⟨h3, h4⟩ := shs_lay q.2
    refine ⟨by simp [toPs, PyData.canLayAll0, h1, h3], ?_⟩
    simp only [toPs, PyData.depthAll]
    omega
end
theorem sh_shaped {d : D} (h : D.sh 60 d = true) : SeqAt.shaped (toP d) = true := by
  obtain ⟨h1, h2⟩ := sh_lay h
  show ((toP d).canLay0 && decide ((toP d).depth ≤ 64)) = true
  rw [Bool.and_eq_true]
  exact ⟨h1, decide_eq_true (by omega)⟩
mutual
theorem eqv_toP : ∀ {d e : D} {n m : Nat}, D.sh n d = true → D.sh m e = true → PyData.eqv (toP d) (toP e) = D.eqv d e
  | .fz _, _, _, _, h, _ => by simp [D.sh] at h
  | .non, e, _, m, _, h => by cases e <;> first | rfl | simp [D.sh] at h
  | .bl b, e, _, m, _, h => by
    cases e with
    | int j => simp only [toP, PyData.eqv, D.eqv]; rw [Bool.beq_eq_decide_eq]
    | fz _ => simp [D.sh] at h
    | _ => simp only [toP, PyData.eqv, D.eqv]
  | .int i, e, _, m, _, h => by
    cases e with
    | int j => simp only [toP, PyData.eqv, D.eqv]; rw [Bool.beq_eq_decide_eq]
    | bl b => simp only [toP, PyData.eqv, D.eqv]; rw [Bool.beq_eq_decide_eq]
    | fz _ => simp [D.sh] at h
    | _ => simp only [toP, PyData.eqv, D.eqv]
  | .str x, e, _, m, _, h => by
    cases e with
    | str y => simp only [toP, PyData.eqv, D.eqv]; rw [Bool.beq_eq_decide_eq]
    | fz _ => simp [D.sh] at h
    | _ => simp only [toP, PyData.eqv, D.eqv]
  | .tup ds, e, n, m, hd, h => by
    cases e with
    | tup es => simp only [toP, PyData.eqv, D.eqv]; exact eqvs_toPs (n := n) (m := m) (by simpa [D.sh] using hd) (by simpa [D.sh] using h)
    | fz _ => simp [D.sh] at h
    | _ => simp only [toP, PyData.eqv, D.eqv]
  | .lst ds, e, n, m, hd, h => by
    cases e with
    | lst es => simp only [toP, PyData.eqv, D.eqv]; exact eqvs_toPs (n := n) (m := m) (by simpa [D.sh] using hd) (by simpa [D.sh] using h)
    | fz _ => simp [D.sh] at h
    | _ => simp only [toP, PyData.eqv, D.eqv]
theorem eqvs_toPs : ∀ {ds es : List D} {n m : Nat}, D.shs n ds = true → D.shs m es = true → PyData.eqvAll (toPs ds) (toPs es) = D.eqvs ds es
  | [], [], _, _, _, _ => by simp [toPs, PyData.eqvAll, D.eqvs]
  | [], _ :: _, _, _, _, _ => by simp [toPs, PyData.eqvAll, D.eqvs]
  | _ :: _, [], _, _, _, _ => by simp [toPs, PyData.eqvAll, D.eqvs]
  | d :: ds, e :: es, 0, _, h, _ => by simp [D.shs] at h
  | d :: ds, e :: es, _ + 1, 0, _, h => by simp [D.shs] at h
  | d :: ds, e :: es, n + 1, m + 1, h1, h2 => by
    simp only [D.shs, Bool.and_eq_true] at h1 h2
    simp only [toPs, PyData.eqvAll, D.eqvs]
    rw [eqv_toP h1.1 h2.1, eqvs_toPs h1.2 h2.2]
end
theorem mem_toPs {d : D} {n : Nat} (hd : D.sh n d = true) : ∀ {m : Nat} {ys : List D}, D.shs m ys = true → ((toPs ys).any fun z => PyData.eqv z (toP d)) = memOf d ys
  | _, [], _ => rfl
  | 0, _ :: _, h => by simp [D.shs] at h
  | m + 1, y :: ys, h => by
    simp only [D.shs, Bool.and_eq_true] at h
    simp only [toPs, List.any_cons, memOf]
    rw [eqv_toP h.1 hd, mem_toPs hd h.2]

/-! ### operators -/
def rBin (K : PySem.W.Frag) (o : Bop) : R2 := fun x y H Q => ∃ O d1 d2 d, (∀ a, O a → H a ≠ none) ∧ Rp K O H d1 x ∧ Rp K O H d2 y ∧ binop o d1 d2 = some d ∧ VOk K O H d Q
def opOf : Bop → Operator
  | .add => .Add
  | .sub => .Sub
  | .mul => .Mult
  | .fdiv => .FloorDiv
  | .mod => .Mod
  | .pow => .Pow
section
variable {X : Cx}
theorem op_fdivG : OpR X (binaryOp .FloorDiv) (rI (fun _ j => j ≠ 0 ∧ j.natAbs.log2 < 9000) fun i j => .int (i.fdiv j)) := opI fun i j _ _ _ _ _ hc q => floordiv_int hc.1 q (.inl (PyProof.noPylong_of_log2 hc.2))
theorem bin_ok (o : Bop) : OpR X (binaryOp (opOf o)) (rBin X.K o) := by
  intro pins s σ H x y v u Q I rx ry h
  obtain ⟨O, d1, d2, d, hO, h1, h2, hb, q⟩ := h
  cases o with
  | add =>
    cases d1 with
    | int i =>
      cases d2 with
      | int j =>
        cases hb
        exact op_add pins s σ H x y v u Q I rx ry ⟨i, j, h1.unint, h2.unint, q.same (.int _)⟩
      | bl b =>
        cases hb
        cases h1.unint
        cases h2.unbl
        obtain ⟨t, rfl⟩ := rx
        cases (show u = .bool b from ry)
        exact add_int_bool ⟨.int (i + b01 b), H, I.tok _, ⟨_, rfl⟩, q.same (.int _)⟩
      | _ => cases hb
    | bl a =>
      cases d2 with
      | int j =>
        cases hb
        cases h1.unbl
        cases h2.unint
        obtain ⟨t, rfl⟩ := ry
        cases (show v = .bool a from rx)
        exact PySem.IntBool.add_bool_int ⟨.int (b01 a + j), H, I.tok _, ⟨_, rfl⟩, q.same (.int _)⟩
      | bl b =>
        cases hb
        cases h1.unbl
        cases h2.unbl
        cases (show v = .bool a from rx)
        cases (show u = .bool b from ry)
        exact PyProof.Rows.add_bool ⟨.int (b01 a + b01 b), H, I.tok _, ⟨_, rfl⟩, q.same (.int _)⟩
      | _ => cases hb
    | lst as =>
      cases d2 with
      | lst bs =>
        simp only [binop] at hb
        split at hb
        · rename_i hl
          cases hb
          obtain ⟨a, vs, e1, n1, s1, r1⟩ := h1.unlst
          obtain ⟨b, us, e2, n2, s2, r2⟩ := h2.unlst
          refine op_cat pins s σ H x y v u Q I rx ry ⟨a, b, vs, us, e1, e2, s1, s2, ?_, fun p hp => q.newL hO (r1.app r2) hp⟩
          rw [← r1.len, ← r2.len]
          exact Nat.le_trans hl lim_line
        · cases hb
      | _ => cases hb
    | tup as =>
      cases d2 with
      | tup bs =>
        simp only [binop] at hb
        split at hb
        · rename_i hl
          cases hb
          obtain ⟨a, vs, e1, s1, r1⟩ := h1.untup
          obtain ⟨b, us, e2, s2, r2⟩ := h2.untup
          refine op_catA pins s σ H x y v u Q I rx ry ⟨a, b, vs, us, e1, e2, s1, s2, ?_, fun z => ?_, fun _ z => ?_, fun _ _ p hp => q.newT (r1.app r2) hp⟩
          · rw [← r1.len, ← r2.len]
            exact Nat.le_trans hl lim_line
          · subst z
            have : as = [] := List.length_eq_zero_iff.mp r1.len
            subst this
            exact q.same (.tup s2 r2)
          · subst z
            have : bs = [] := List.length_eq_zero_iff.mp r2.len
            subst this
            refine q.same ?_
            rw [List.append_nil]
            exact .tup s1 r1
        · cases hb
      | _ => cases hb
    | _ => cases d2 <;> cases hb
  | sub =>
    cases d1 with
    | int i =>
      cases d2 with
      | int j =>
        cases hb
        exact op_sub pins s σ H x y v u Q I rx ry ⟨i, j, h1.unint, h2.unint, q.same (.int _)⟩
      | bl b =>
        cases hb
        cases h1.unint
        cases h2.unbl
        obtain ⟨t, rfl⟩ := rx
        cases (show u = .bool b from ry)
        exact PySem.IntBool.sub_int_bool ⟨.int (i - b01 b), H, I.tok _, ⟨_, rfl⟩, q.same (.int _)⟩
      | _ => cases hb
    | bl a =>
      cases d2 with
      | int j =>
        cases hb
        cases h1.unbl
        cases h2.unint
        obtain ⟨t, rfl⟩ := ry
        cases (show v = .bool a from rx)
        exact PySem.IntBool.sub_bool_int ⟨.int (b01 a - j), H, I.tok _, ⟨_, rfl⟩, q.same (.int _)⟩
      | bl b =>
        cases hb
        cases h1.unbl
        cases h2.unbl
        cases (show v = .bool a from rx)
        cases (show u = .bool b from ry)
        exact PyProof.Rows.sub_bool ⟨.int (b01 a - b01 b), H, I.tok _, ⟨_, rfl⟩, q.same (.int _)⟩
      | _ => cases hb
    | _ => cases d2 <;> cases hb
  | mul =>
    cases d1 with
    | int i =>
      cases d2 with
      | int j =>
        simp only [binop] at hb
        split at hb
        · rename_i hm
          cases hb
          exact op_mulW pins s σ H x y v u Q I rx ry ⟨i, j, h1.unint, h2.unint, (of_decide_eq_true (show decide (i.natAbs.log2 + j.natAbs.log2 < 1000000) = true from hm) : i.natAbs.log2 + j.natAbs.log2 < 1000000), q.same (.int _)⟩
        · cases hb
      | _ => cases hb
    | lst as =>
      cases d2 with
      | int k =>
        simp only [binop] at hb
        split at hb
        · rename_i hl
          cases hb
          obtain ⟨a, vs, e1, n1, s1, r1⟩ := h1.unlst
          refine op_rep pins s σ H x y v u Q I rx ry ⟨a, k, vs, e1, h2.unint, s1, hl.2.1, hl.2.2, ?_, fun p hp => q.newL hO (Rps.rep r1 k.toNat) hp⟩
          rw [← r1.len]
          exact Nat.le_trans hl.1 lim_line
        · cases hb
      | _ => cases hb
    | _ => cases d2 <;> cases hb
  | fdiv =>
    cases d1 with
    | int i =>
      cases d2 with
      | int j =>
        simp only [binop] at hb
        split at hb
        · cases hb
        · split at hb
          · rename_i hj hl
            cases hb
            exact op_fdivG pins s σ H x y v u Q I rx ry ⟨i, j, h1.unint, h2.unint, ⟨hj, hl⟩, q.same (.int _)⟩
          · cases hb
      | _ => cases hb
    | _ => cases d2 <;> cases hb
  | mod =>
    cases d1 with
    | int i =>
      cases d2 with
      | int j =>
        simp only [binop] at hb
        split at hb
        · cases hb
        · rename_i hj
          cases hb
          exact op_modN pins s σ H x y v u Q I rx ry ⟨i, j, h1.unint, h2.unint, hj, q.same (.int _)⟩
      | _ => cases hb
    | _ => cases d2 <;> cases hb
  | pow =>
    cases d1 with
    | int i =>
      cases d2 with
      | int j =>
        simp only [binop] at hb
        split at hb
        · rename_i hj
          cases hb
          exact op_pow pins s σ H x y v u Q I rx ry ⟨i, j, h1.unint, h2.unint, hj, q.same (.int _)⟩
        · cases hb
      | _ => cases hb
    | _ => cases d2 <;> cases hb
/-! ### comparisons -/
def rCmp (K : PySem.W.Frag) (o : Cop) : R2 := fun x y H Q => ∃ O d1 d2 b, Rp K O H d1 x ∧ Rp K O H d2 y ∧ cmpop o d1 d2 = some b ∧ Q (.bl b) H
def copOf : Cop → CmpOp
  | .eq => .Eq
  | .ne => .NotEq
  | .lt => .Lt
  | .le => .LtE
  | .gt => .Gt
  | .ge => .GtE
  | .isN => .Is
  | .notN => .IsNot
  | .mem => .In
  | .nmem => .NotIn
theorem op_inT (hu : X.A.units + 65 < cLine) {ds : List PyData} {d : PyData} {pins : List (Addr × Obj)} {s : Shared} {σ : L2.St} {H : Hp} {x y : V} {v u : Value} {Q : VK} (I : Inv X pins σ H s) (rx : RelV x v) (ry : RelV y u) (hd : Dp X.K H x d) (he : Dp X.K H y (.tuple ds))
    (sd : SeqAt.shaped d = true) (se : SeqAt.shaped (.tuple ds) = true) (q : Q (.bl (ds.any fun z => PyData.eqv z d)) H) : wpAny (model X.prog X.w) X.A (compareOp .In v u) (EP X pins σ Q) X.xe s := by
  obtain ⟨as, r1⟩ := Dp.reads I d x v hd rx
  obtain ⟨bs, r2⟩ := Dp.reads I (.tuple ds) y u he ry
  exact SeqAt.in_tuple_reads r2 r1 (SeqAt.canLay_of_shaped se) (SeqAt.canLay_of_shaped sd) (room_in_shaped sd hu) ⟨.bl _, H, I, rfl, q⟩
theorem op_notInT (hu : X.A.units + 65 < cLine) {ds : List PyData} {d : PyData} {pins : List (Addr × Obj)} {s : Shared} {σ : L2.St} {H : Hp} {x y : V} {v u : Value} {Q : VK} (I : Inv X pins σ H s) (rx : RelV x v) (ry : RelV y u) (hd : Dp X.K H x d) (he : Dp X.K H y (.tuple ds))
    (sd : SeqAt.shaped d = true) (se : SeqAt.shaped (.tuple ds) = true) (q : Q (.bl (!ds.any fun z => PyData.eqv z d)) H) : wpAny (model X.prog X.w) X.A (compareOp .NotIn v u) (EP X pins σ Q) X.xe s := by
  obtain ⟨as, r1⟩ := Dp.reads I d x v hd rx
  obtain ⟨bs, r2⟩ := Dp.reads I (.tuple ds) y u he ry
  exact SeqAt.notIn_tuple_reads r2 r1 (SeqAt.canLay_of_shaped se) (SeqAt.canLay_of_shaped sd) (room_in_shaped sd hu) ⟨.bl _, H, I, rfl, q⟩
theorem cmp_ok (hu : X.A.units + 65 < cLine) (o : Cop) : OpR X (compareOp (copOf o)) (rCmp X.K o) := by
  intro pins s σ H x y v u Q I rx ry h
  obtain ⟨O, d1, d2, b, h1, h2, hb, q⟩ := h
  have hu64 : X.A.units + 64 < cLine := Nat.lt_of_le_of_lt (Nat.le_succ _) hu
  cases o with
  | eq =>
    simp only [cmpop] at hb
    split at hb
    · rename_i hs
      cases hb
      rw [Bool.and_eq_true] at hs
      exact op_eqD hu64 pins s σ H x y v u Q I rx ry ⟨_, _, h1.dp hs.1, h2.dp hs.2, sh_shaped hs.1, sh_shaped hs.2, by rw [eqv_toP hs.1 hs.2]; exact q⟩
    · cases hb
  | ne =>
    simp only [cmpop] at hb
    split at hb
    · rename_i hs
      cases hb
      rw [Bool.and_eq_true] at hs
      exact op_neD hu64 pins s σ H x y v u Q I rx ry ⟨_, _, h1.dp hs.1, h2.dp hs.2, sh_shaped hs.1, sh_shaped hs.2, by rw [eqv_toP hs.1 hs.2]; exact q⟩
    · cases hb
  | lt =>
    cases d1 with
    | int i =>
      cases d2 with
      | int j =>
        cases hb
        exact op_lt pins s σ H x y v u Q I rx ry ⟨i, j, h1.unint, h2.unint, q⟩
      | _ => cases hb
    | _ => cases d2 <;> cases hb
  | le =>
    cases d1 with
    | int i =>
      cases d2 with
      | int j =>
        cases hb
        exact op_le pins s σ H x y v u Q I rx ry ⟨i, j, h1.unint, h2.unint, q⟩
      | _ => cases hb
    | _ => cases d2 <;> cases hb
  | gt =>
    cases d1 with
    | int i =>
      cases d2 with
      | int j =>
        cases hb
        exact op_gt pins s σ H x y v u Q I rx ry ⟨i, j, h1.unint, h2.unint, q⟩
      | _ => cases hb
    | _ => cases d2 <;> cases hb
  | ge =>
    cases d1 with
    | int i =>
      cases d2 with
      | int j =>
        cases hb
        exact op_ge pins s σ H x y v u Q I rx ry ⟨i, j, h1.unint, h2.unint, q⟩
      | _ => cases hb
    | _ => cases d2 <;> cases hb
  | isN =>
    cases d2 with
    | non =>
      refine op_isN pins s σ H x y v u Q I rx ry ⟨h2.unnon, ?_⟩
      cases d1 with
      | non => cases hb; rw [h1.unnon]; exact q
      | bl _ => cases hb; rw [h1.unbl]; exact q
      | int _ => cases hb; rw [h1.unint]; exact q
      | str _ => cases hb; rw [h1.unstr]; exact q
      | tup _ => cases hb; obtain ⟨a, vs, e, _⟩ := h1.untup; rw [e]; exact q
      | lst _ => cases hb; obtain ⟨a, vs, e, _⟩ := h1.unlst; rw [e]; exact q
      | fz _ => cases hb; obtain ⟨a, vs, e, _⟩ := h1.unfz; rw [e]; exact q
    | _ => cases hb
  | notN =>
    cases d2 with
    | non =>
      refine op_notN pins s σ H x y v u Q I rx ry ⟨h2.unnon, ?_⟩
      cases d1 with
      | non => cases hb; rw [h1.unnon]; exact q
      | bl _ => cases hb; rw [h1.unbl]; exact q
      | int _ => cases hb; rw [h1.unint]; exact q
      | str _ => cases hb; rw [h1.unstr]; exact q
      | tup _ => cases hb; obtain ⟨a, vs, e, _⟩ := h1.untup; rw [e]; exact q
      | lst _ => cases hb; obtain ⟨a, vs, e, _⟩ := h1.unlst; rw [e]; exact q
      | fz _ => cases hb; obtain ⟨a, vs, e, _⟩ := h1.unfz; rw [e]; exact q
    | _ => cases hb
  | mem =>
    cases d2 with
    | lst ys =>
      simp only [cmpop] at hb
      split at hb
      · rename_i hs
        cases hb
        rw [Bool.and_eq_true] at hs
        have hy : D.shs 60 ys = true := by simpa [D.sh] using hs.2
        refine op_inD hu pins s σ H x y v u Q I rx ry ⟨_, toPs ys, h1.dp hs.1, h2.dp hs.2, sh_shaped hs.1, sh_shaped hs.2, by rw [mem_toPs hs.1 hy]; exact q⟩
      · cases hb
    | tup ys =>
      simp only [cmpop] at hb
      split at hb
      · rename_i hs
        cases hb
        rw [Bool.and_eq_true] at hs
        have hy : D.shs 60 ys = true := by simpa [D.sh] using hs.2
        exact op_inT hu I rx ry (h1.dp hs.1) (h2.dp hs.2) (sh_shaped hs.1) (sh_shaped hs.2) (by rw [mem_toPs hs.1 hy]; exact q)
      · cases hb
    | _ => cases hb
  | nmem =>
    cases d2 with
    | lst ys =>
      simp only [cmpop] at hb
      split at hb
      · rename_i hs
        cases hb
        rw [Bool.and_eq_true] at hs
        have hy : D.shs 60 ys = true := by simpa [D.sh] using hs.2
        refine op_notInD hu pins s σ H x y v u Q I rx ry ⟨_, toPs ys, h1.dp hs.1, h2.dp hs.2, sh_shaped hs.1, sh_shaped hs.2, by rw [mem_toPs hs.1 hy]; exact q⟩
      · cases hb
    | tup ys =>
      simp only [cmpop] at hb
      split at hb
      · rename_i hs
        cases hb
        rw [Bool.and_eq_true] at hs
        have hy : D.shs 60 ys = true := by simpa [D.sh] using hs.2
        exact op_notInT hu I rx ry (h1.dp hs.1) (h2.dp hs.2) (sh_shaped hs.1) (sh_shaped hs.2) (by rw [mem_toPs hs.1 hy]; exact q)
      · cases hb
    | _ => cases hb
/-! ### subscripts, slices -/
theorem place_ix (n : Nat) (i : Int) : place n i = ixN n i := by
  unfold place ixN
  cases i with
  | ofNat k =>
    simp only [Int.ofNat_eq_natCast]
    by_cases h : k < n
    · rw [if_pos h, if_pos (by omega), if_pos (by omega)]; simp
    · rw [if_neg h, if_pos (by omega), if_neg (by omega)]
  | negSucc k =>
    simp only
    by_cases h : k + 1 ≤ n
    · rw [if_pos h, if_neg (by omega), if_pos (by omega)]
      congr 1
      omega
    · rw [if_neg h, if_neg (by omega), if_neg (by omega)]
theorem at_get {xs : List D} {vs : List V} {i : Int} {d : D} (r : Rps K O H xs vs) (h : at_ xs i = some d) : ∃ v, atI vs i = some v ∧ Rp K O H d v := by
  unfold at_ at h
  unfold atI
  rw [place_ix, r.len] at h
  cases e : ixN vs.length i with
  | none => rw [e] at h; cases h
  | some j =>
    rw [e] at h
    exact r.get h
def rIxs (K : PySem.W.Frag) : R2 := fun x y H Q => rIxL K x y H Q ∨ rIxT K x y H Q
theorem ixs_ok : IxR X (rIxs X.K) := IxR.or ix_list ix_tup
theorem ix_val {d1 d2 d : D} {x y : V} {Q : VK} (h1 : Rp K O H d1 x) (h2 : Rp K O H d2 y) (h : ixop d1 d2 = some d) (q : VOk K O H d Q) : rIxs K x y H Q := by
  cases d1 with
  | tup xs =>
    cases d2 with
    | int i =>
      obtain ⟨a, vs, e1, s1, r1⟩ := h1.untup
      obtain ⟨v, e, r⟩ := at_get r1 (show at_ xs i = some d from h)
      exact .inr ⟨a, vs, i, v, e1, h2.unint, s1, e, q.same r⟩
    | _ => cases h
  | lst xs =>
    cases d2 with
    | int i =>
      obtain ⟨a, vs, e1, _, s1, r1⟩ := h1.unlst
      obtain ⟨v, e, r⟩ := at_get r1 (show at_ xs i = some d from h)
      exact .inl ⟨a, vs, i, v, e1, h2.unint, .inl (.inl s1), e, q.same r⟩
    | _ => cases h
  | fz xs =>
    cases d2 with
    | int i =>
      obtain ⟨a, vs, e1, s1, r1⟩ := h1.unfz
      obtain ⟨v, e, r⟩ := at_get r1 (show at_ xs i = some d from h)
      exact .inl ⟨a, vs, i, v, e1, h2.unint, s1, e, q.same r⟩
    | _ => cases h
  | _ => cases d2 <;> cases h
theorem cut_ix (n d : Nat) (o : Option Int) : cutAt n d o = HT.sIx n d o := by
  cases o with
  | none => rfl
  | some i =>
    cases i with
    | ofNat k => exact (HT.sIx_nat n d k).symm
    | negSucc k =>
      show n - (k + 1) = if Int.negSucc k < 0 then (Int.negSucc k + (n : Int)).toNat else _
      rw [if_pos (by omega)]
      omega
theorem cut_rps {xs : List D} {vs : List V} (r : Rps K O H xs vs) (lo hi : Option Int) : Rps K O H (cutOf xs lo hi) (cutV vs lo hi) := by
  unfold cutOf cutV
  rw [cut_ix, cut_ix, r.len]
  exact (r.drop _).take _
def rSls (K : PySem.W.Frag) : V → Option Int → Option Int → Hp → VK → Prop := fun x lo hi H Q => rSlL K x lo hi H Q ∨ rSlA K x lo hi H Q
theorem sls_ok : SlR X (rSls X.K) := SlR.or sl_list sl_tupA
theorem sl_val {d1 d : D} {x : V} {lo hi : Option Int} {Q : VK} (hO : ∀ a, O a → H a ≠ none) (h1 : Rp K O H d1 x) (h : slop d1 lo hi = some d) (q : VOk K O H d Q) : rSls K x lo hi H Q := by
  cases d1 with
  | tup xs =>
    cases h
    obtain ⟨a, vs, e1, s1, r1⟩ := h1.untup
    refine .inr ⟨a, vs, e1, s1, fun z => ?_, fun _ p hp => q.newT (cut_rps r1 lo hi) hp⟩
    refine q.same (.tup s1 ?_)
    have e : cutV vs lo hi = vs := by
      unfold cutV
      rw [z.1, z.2]
      simp
    rw [← e]
    exact cut_rps r1 lo hi
  | lst xs =>
    cases h
    obtain ⟨a, vs, e1, _, s1, r1⟩ := h1.unlst
    exact .inl ⟨a, vs, e1, .inl (.inl s1), fun p hp => q.newL hO (cut_rps r1 lo hi) hp⟩
  | _ => cases h
/-! ### truth -/
theorem truth_val {d : D} {v : V} (h : Rp K O H d v) {b : Bool} (hs : d.tr = some b) : TruV K v H b := by
  cases d with
  | non => cases hs; rw [h.unnon]; rfl
  | bl b => cases hs; rw [h.unbl]; rfl
  | int i =>
    cases hs
    rw [h.unint]
    show (!decide (i = 0)) = (i != 0)
    rw [bne, Bool.beq_eq_decide_eq]
  | str x => cases hs
  | tup ds =>
    cases hs
    obtain ⟨a, vs, e, s, r⟩ := h.untup
    rw [e]
    refine .inr (.inl ⟨vs, s, ?_⟩)
    have := r.len
    cases ds <;> cases vs <;> simp at this ⊢ <;> rfl
  | lst ds =>
    cases hs
    obtain ⟨a, vs, e, _, s, r⟩ := h.unlst
    rw [e]
    refine .inl ⟨vs, .inl (.inl s), ?_⟩
    have := r.len
    cases ds <;> cases vs <;> simp at this ⊢ <;> rfl
  | fz ds =>
    cases hs
    obtain ⟨a, vs, e, s, r⟩ := h.unfz
    rw [e]
    refine .inl ⟨vs, s, ?_⟩
    have := r.len
    cases ds <;> cases vs <;> simp at this ⊢ <;> rfl
end
end
end Ev
set_option Elab.async false
set_option linter.all false
set_option maxRecDepth 100000
set_option maxHeartbeats 4000000
set_option autoImplicit false
/-! Ev2b: a tuple or a list from its end, t[::-1]. -/
namespace HT
open PySem PyProof.Rows PySem.W L2
section
variable {prog : Program} {w : World} {A : Around} {E : Value → Shared → Prop} {s : Shared}
theorem sliceApplied_rev {sl : Addr} {vl vu vs : Value} {n : Nat} {Q : Int × Int × Nat → Shared → Prop} (hs : s.heap.IsSliceOf sl vl vu vs) (pl : IsPart vl none) (pu : IsPart vu none) (ps : IsPart vs (some (-1)))
    (h : Q ((n : Int) - 1, -1, n) s) : wpAny (model prog w) A (Builtin.Slice.sliceApplied (.ref sl) (pure (n : Int))) Q E s := by
  obtain ⟨os, hos, hcs, hds⟩ := id hs
  unfold Builtin.Slice.sliceApplied Builtin.Slice.sliceFields
  refine wpAny_bind (wpAny_bind (wpAny_field hos hds (x := vl) rfl (wpAny_bind (wpAny_field hos hds (x := vu) rfl (wpAny_bind (wpAny_field hos hds (x := vs) rfl (wpAny_pure ?_)))))))
  refine wpAny_bind (slicePart_ ps ?_)
  show wpAny _ _ (if ((-1 : Int) == 0) = true then _ else _) _ _ s
  rw [if_neg (by decide)]
  refine wpAny_bind (slicePart_ pl (wpAny_bind (slicePart_ pu (wpAny_bind (wpAny_pure ?_)))))
  show wpAny _ _ (match Builtin.Slice.sliceAdjust none none (-1) (n : Int) with | (lo, hi) => pure (lo, (-1 : Int), Builtin.Slice.slicePlaces lo hi (-1))) _ _ s
  have e1 : Builtin.Slice.sliceAdjust none none (-1) (n : Int) = ((n : Int) - 1, -1) := by
    unfold Builtin.Slice.sliceAdjust
    simp
  rw [e1]
  show wpAny _ _ (pure ((n : Int) - 1, (-1 : Int), Builtin.Slice.slicePlaces ((n : Int) - 1) (-1) (-1))) _ _ s
  have e2 : Builtin.Slice.slicePlaces ((n : Int) - 1) (-1) (-1) = n := by
    unfold Builtin.Slice.slicePlaces
    simp
    try omega
  rw [e2]
  exact wpAny_pure h
theorem fm_congr {a b : Type} {f g : a → Option b} : ∀ {l : List a}, (∀ x ∈ l, f x = g x) → l.filterMap f = l.filterMap g
  | [], _ => rfl
  | x :: l, h => by
    rw [List.filterMap_cons, List.filterMap_cons, h x List.mem_cons_self, fm_congr (l := l) fun y hy => h y (List.mem_cons_of_mem _ hy)]
theorem pick_all {a : Type} (xs : List a) : (List.range xs.length).filterMap (fun m => xs[m]?) = xs := by
  have q := pick_run xs.toArray 0 xs.length
  rw [List.filterMap_map] at q
  have e : ((fun x => xs.toArray[x]?) ∘ fun x => 0 + x) = fun m => xs[m]? := by
    funext m
    simp
  rw [e] at q
  rw [q]
  simp
theorem pick_revL (xs : Array Value) : ((List.range xs.size).filterMap fun (m : Nat) => xs[(((xs.size : Int) - 1) + (m : Int) * (-1)).toNat]?) = xs.toList.reverse := by
  have e : ((List.range xs.size).filterMap fun (m : Nat) => xs[(((xs.size : Int) - 1) + (m : Int) * (-1)).toNat]?) = (List.range xs.toList.reverse.length).filterMap fun m => xs.toList.reverse[m]? := by
    rw [List.length_reverse, Array.length_toList]
    refine fm_congr fun m hm => ?_
    have hm : m < xs.size := List.mem_range.mp hm
    rw [List.getElem?_reverse (by rw [Array.length_toList]; exact hm), Array.getElem?_toList, Array.length_toList]
    congr 1
    omega
  rw [e, pick_all]
theorem getItem_tuple_rev {t sl : Addr} {items : Array Value} {vl vu vs : Value} {Q : Value → Shared → Prop} (ht : IsTup s.heap t items) (hs : s.heap.IsSliceOf sl vl vu vs) (pl : IsPart vl none) (pu : IsPart vu none) (ps : IsPart vs (some (-1)))
    (h : Q (.ref s.heap.objs.size) { s with heap := s.heap.push { cls := .type "tuple", data := .seq items.toList.reverse.toArray } })
    (hsz : items.size ≤ sizeLine) : wpAny (model prog w) A (getItem (.ref t) (.ref sl)) Q E s := by
  have htake : sizeOk (.seq items.toList.reverse.toArray) := by
    show items.toList.reverse.toArray.size ≤ sizeLine
    rw [List.size_toArray, List.length_reverse, Array.length_toList]
    omega
  obtain ⟨os, hos, hcs, hds⟩ := id hs
  have hTs : s.TypeIs (.ref sl) "slice" := ⟨os, hos, hcs⟩
  unfold getItem
  try with_reducible refine wpAny_holding ?_
  first | refine wpAny_bind (wpAny_pure ?_) | skip
  refine wpAny_bind (wpAny_sequenceKey ht.typeIs (by decide) ?_)
  refine wpAny_bind (wpAny_callSpecial?_slot (name := Str.ofString "__getitem__") ht.typeIs PyProof.Rows.slot_tuple_getitem
    (wpAny_call_entry PyProof.Rows.slot_tuple_getitem ht.typeIs entry_tuple_getitem ?_ (args_tuple_getitem _ _)))
  show wpAny _ _ (Builtin.Tuple.tupleItemsOf (.ref t) >>= _) _ _ s
  refine wpAny_bind (tupleItemsOf_ ht ?_)
  refine wpAny_bind (wpAny_typeOf hTs ?_)
  rw [if_pos (by decide)]
  refine wpAny_bind (sliceApplied_rev hs pl pu ps ?_)
  have hno : ¬ ((((items.size : Int) - 1) == 0 && (-1 : Int) == 1 && items.size == items.size) = true) := by simp
  show wpAny _ _ (if (((items.size : Int) - 1) == 0 && (-1 : Int) == 1 && items.size == items.size) = true then _ else _) _ _ s
  rw [if_neg hno, pick_revL]
  first
    | exact wpAny_bind (m := Builtin.Tuple.tupleExact _) (wpAny_newObj_type (wpAny_pure ⟨_, rfl, wpAny_pure h⟩) htake)
    | exact wpAny_bind (m := Builtin.Tuple.tupleExact _) (wpAny_newObj_type (wpAny_bind (wpAny_pure (wpAny_pure ⟨_, rfl, wpAny_pure h⟩))) htake)
    | exact wpAny_bind (wpAny_bind (m := Builtin.Tuple.tupleExact _) (wpAny_newObj_type (wpAny_pure (wpAny_pure ⟨_, rfl, wpAny_pure h⟩)) htake))
    | exact wpAny_bind (wpAny_bind (m := Builtin.Tuple.tupleExact _) (wpAny_newObj_type (wpAny_pure ⟨_, rfl, wpAny_pure h⟩) htake))
end
end HT
namespace Ev
open PySem PySem.Spec PyProof.Rows L2
section
variable {X : Cx} {e : Expr} {te : TE} {k : Nat} {p1 p2 p3 pos : Pos}
/-- t[::-1], xs[::-1] -/
def tRev (K : PySem.W.Frag) (te : TE) : TE := fun σ H Q => te σ H fun x H1 => ∃ a xs, x = .ref a ∧ ((SqL K H1 a xs ∧ ∀ p, H1 p = none → Q (.ref p) (upd H1 p (.lst xs.reverse))) ∨ (SqT K H1 a xs ∧ ∀ p, H1 p = none → Q (.ref p) (upd H1 p (.tup xs.reverse))))
theorem pe_rev (he : PE X e te) : PE X (.Subscript e (.Slice none none (some (.UnaryOp .USub (.Constant (.int 1) k p1) p2)) p3) pos) (tRev X.K te) := by
  refine ⟨fun pins s σ H Q I h => ?_⟩
  refine Subscript_ (thn (he.run pins s σ H _ I h) fun v s1 ⟨x, H1, I1, r1, q1⟩ => ?_)
  obtain ⟨a, xs, ex, q1⟩ := q1
  subst ex
  cases r1
  have hst : PO X (some (.UnaryOp .USub (.Constant (.int 1) k p1) p2)) (tPart (tUn (rU fun i => .int (-i)) (tC (.int 1)))) := po_some (pe_un un_neg pe_int)
  refine wpAny_Slice (thn (po_none.run pins s1 σ H1 (fun o H2 => o = none ∧ H2 = H1) I1 ⟨rfl, rfl⟩) fun vl s2 ⟨l, H2, I2, pl, el, e2⟩ => ?_)
  subst el e2
  refine thn (po_none.run pins s2 σ H2 (fun o H3 => o = none ∧ H3 = H2) I2 ⟨rfl, rfl⟩) fun vu s3 ⟨u, H3, I3, pu, eu, e3⟩ => ?_
  subst eu e3
  refine thn (hst.run pins s3 σ H3 (fun o H4 => o = some (-1) ∧ H4 = H3) I3 ⟨1, rfl, -1, rfl, rfl, rfl⟩) fun vs s4 ⟨o, H4, I4, ps, eo, e4⟩ => ?_
  subst eo e4
  have I5 : Inv X pins σ H4 { s4 with heap := s4.heap.push { cls := .type "slice", data := .fields #[vl, vu, vs] } } := I4.kept (t' := s4.toks) fun b ob q => Heap.get?_push_of_some _ q
  show wpAny (model X.prog X.w) X.A (subscriptTail e (.Slice none none (some (.UnaryOp .USub (.Constant (.int 1) k p1) p2)) p3) (.ref a) (.ref s4.heap.objs.size)) (EP X pins σ Q) X.xe { s4 with heap := s4.heap.push { cls := .type "slice", data := .fields #[vl, vu, vs] } }
  rcases q1 with ⟨hx, q⟩ | ⟨hx, q⟩
  · obtain ⟨its, r, ht, hz⟩ := I5.list hx
    have hlen := r.length
    refine tail_any (ops := [.ref a, .ref s4.heap.objs.size]) ht.isList.typeIs (PySem.slot_list_getitem.lookup) ?_ (by with_unfolding_all rfl)
    refine wpAny_getItem_list_slice ht.isList (Heap.IsSliceOf.new _ vl vu vs) pl pu ps (by decide) ?_ (by rw [List.size_toArray]; omega)
    rw [PySem.W.krv_pick]
    refine ⟨.ref _, _, I5.laid (t' := s4.toks) (o := .lst xs.reverse) (fun b ob q => Heap.get?_push_of_some _ q) (Nat.le_refl _) ?_, rfl, q _ (I5.hok.fresh (Nat.le_refl _))⟩
    exact ⟨by rw [List.length_reverse]; exact hz, _, 0, r.reverse, Heap.get?_push_size _ rfl⟩
  · obtain ⟨its, r, ht, hz⟩ := I5.tuple hx
    have hlen := r.length
    refine tail_any (ops := [.ref a, .ref s4.heap.objs.size]) ht.typeIs (PyProof.Rows.slot_tuple_getitem.lookup) ?_ (by with_unfolding_all rfl)
    refine HT.getItem_tuple_rev ht (Heap.IsSliceOf.new _ vl vu vs) pl pu ps ?_ (by rw [List.size_toArray]; omega)
    refine ⟨.ref _, _, I5.laid (t' := s4.toks) (o := .tup xs.reverse) (fun b ob q => Heap.get?_push_of_some _ q) (Nat.le_refl _) ?_, rfl, q _ (I5.hok.fresh (Nat.le_refl _))⟩
    exact ⟨by rw [List.length_reverse]; exact hz, _, r.reverse, IsTup.new _ _⟩
end
end Ev
set_option Elab.async false
set_option linter.all false
set_option maxRecDepth 100000
set_option maxHeartbeats 4000000
set_option autoImplicit false
/-! Ev3: a tree is the tree of a text; what it computes is what the text does. -/
namespace Ev
open PySem PySem.Spec PyProof.Rows L2
structure FnI where
  name : Str
  ps : List Str
  io : Bool
structure Gam where
  N : List Str
  sc : Scope
  cs : Option Scope
  fns : List FnI
  gls : List Str
def bltNames : List Str := ["len", "abs", "int", "tuple", "list", "isinstance", "range", "bool", "str", "zip", "sorted", "min", "max", "sum", "set"]
def badName (x : Str) : Bool := x == ("__debug__" : Str) || x == ("__classdict__" : Str) || x == ("__name__" : Str)
def visB (Γ : Gam) (x : Str) : Bool := (match Γ.sc.names.lookup x with
  | some .local => true
  | some .cell => true
  | some .free => true
  | _ => false) && !badName x
def glB (Γ : Gam) (x : Str) : Bool := (match Γ.sc.names.lookup x with
  | some .globalImplicit => true
  | _ => false) && !badName x
/-- a name that may be stored -/
def stB (Γ : Gam) (x : Str) : Bool := match Γ.sc.names.lookup x with
  | some .local => true
  | some .cell => (match Γ.cs with
    | none => true
    | some sc => sc.names.lookup x == some .cell)
  | _ => false
def isStar : PySem.Expr → Bool
  | .Starred _ _ => true
  | _ => false
def isSl : PySem.Expr → Bool
  | .Slice _ _ _ _ => true
  | _ => false
/-- [::-1] -/
def isRevSl : PySem.Expr → Bool
  | .Slice none none (some (.UnaryOp .USub (.Constant (.int 1) _ _) _)) _ => true
  | _ => false
theorem isRevSl_i {e : PySem.Expr} (h : isRevSl e = true) : ∃ k p1 p2 p3, e = .Slice none none (some (.UnaryOp .USub (.Constant (.int 1) k p1) p2)) p3 := by
  unfold isRevSl at h
  split at h
  · exact ⟨_, _, _, _, rfl⟩
  · cases h
def isSet : PySem.Expr → Bool
  | .Set _ _ _ => true
  | _ => false
def noStar (es : List PySem.Expr) : Bool := es.all fun e => !isStar e
def litB : D → Const → Bool
  | .non, .none => true
  | .bl a, .bool b => a == b
  | .int i, .int j => decide (i = j)
  | .str x, .str y => decide (x = y)
  | _, _ => false
def nameB (n : Str) : PySem.Expr → Bool
  | .Name x _ => x == n
  | _ => false
def Prim.name : Prim → Str
  | .len => "len"
  | .abs => "abs"
  | .int => "int"
  | .tuple => "tuple"
  | .list => "list"
  | .sum => "sum"
  | .min1 => "min"
  | .max1 => "max"
  | _ => "isinstance"
def Prim2.name : Prim2 → Str
  | .min2 => "min"
  | .max2 => "max"
/-- the second argument of isinstance -/
def clsB (Γ : Gam) : Prim → PySem.Expr → Bool
  | .isInt, e => nameB "int" e && glB Γ "int"
  | .isBool, e => nameB "bool" e && glB Γ "bool"
  | .isTup, e => nameB "tuple" e && glB Γ "tuple"
  | .isLst, e => nameB "list" e && glB Γ "list"
  | .isStr, e => nameB "str" e && glB Γ "str"
  | .isSeq, .Tuple [a, b] _ _ => nameB "tuple" a && nameB "list" b && (glB Γ "tuple" && glB Γ "list")
  | _, _ => false
def Gam.blk (Γ : Gam) (scope : Scope) : Gam := { Γ with sc := relS scope Γ.sc, cs := some scope }
/-! ### forms of texts -/
def asName (e : PySem.Expr) (k : Str → Bool) : Bool := match e with
  | .Name x _ => k x
  | _ => false
def asTup (e : PySem.Expr) (k : List PySem.Expr → Bool) : Bool := match e with
  | .Tuple es _ _ => k es
  | _ => false
def asLst (e : PySem.Expr) (k : List PySem.Expr → Bool) : Bool := match e with
  | .List es _ => k es
  | _ => false
def asCon (e : PySem.Expr) (k : Const → Bool) : Bool := match e with
  | .Constant c _ _ => k c
  | _ => false
def asBin (e : PySem.Expr) (k : Operator → PySem.Expr → PySem.Expr → Bool) : Bool := match e with
  | .BinOp x p y _ => k p x y
  | _ => false
def asUn (e : PySem.Expr) (k : UnaryOp → PySem.Expr → Bool) : Bool := match e with
  | .UnaryOp p x _ => k p x
  | _ => false
def asCmp (e : PySem.Expr) (k : PySem.Expr → List CmpOp → List PySem.Expr → Bool) : Bool := match e with
  | .Compare x ps ys _ => k x ps ys
  | _ => false
def asBoo (e : PySem.Expr) (k : BoolOp → List PySem.Expr → Pos → Bool) : Bool := match e with
  | .BoolOp o es p => k o es p
  | _ => false
def asIf (e : PySem.Expr) (k : PySem.Expr → PySem.Expr → PySem.Expr → Bool) : Bool := match e with
  | .IfExp x y z _ => k x y z
  | _ => false
/-- a call of a name, no keywords -/
def asCall (e : PySem.Expr) (k : Str → List PySem.Expr → Bool) : Bool := match e with
  | .Call (.Name x _) es [] _ => k x es
  | _ => false
def asSub (e : PySem.Expr) (k : PySem.Expr → PySem.Expr → Bool) : Bool := match e with
  | .Subscript x y _ => k x y
  | _ => false
def asSl (e : PySem.Expr) (k : Option PySem.Expr → Option PySem.Expr → Bool) : Bool := match e with
  | .Slice l h none _ => k l h
  | _ => false
def asComp (e : PySem.Expr) (k : PySem.Expr → PySem.Expr → PySem.Expr → List PySem.Expr → Scope → Bool) : Bool := match e with
  | .ListComp x [⟨tg, it, ifs, 0⟩] sc _ => k x tg it ifs sc
  | _ => false
def asComp2 (e : PySem.Expr) (k : PySem.Expr → PySem.Expr → PySem.Expr → List PySem.Expr → PySem.Expr → PySem.Expr → List PySem.Expr → Scope → Bool) : Bool := match e with
  | .ListComp x [⟨tg, it, ifs, 0⟩, ⟨tg1, it1, ifs1, 0⟩] sc _ => k x tg it ifs tg1 it1 ifs1 sc
  | _ => false
def as1 {a : Type} (l : List a) (k : a → Bool) : Bool := match l with
  | [x] => k x
  | _ => false
def as2 {a : Type} (l : List a) (k : a → a → Bool) : Bool := match l with
  | [x, y] => k x y
  | _ => false
def asC {a : Type} (l : List a) (k : a → List a → Bool) : Bool := match l with
  | x :: r => k x r
  | _ => false
theorem asName_i {e : PySem.Expr} {k : Str → Bool} (h : asName e k = true) : ∃ x p, e = .Name x p ∧ k x = true := by
  cases e <;> first | exact ⟨_, _, rfl, h⟩ | cases h
theorem asTup_i {e : PySem.Expr} {k : List PySem.Expr → Bool} (h : asTup e k = true) : ∃ x n p, e = .Tuple x n p ∧ k x = true := by
  cases e <;> first | exact ⟨_, _, _, rfl, h⟩ | cases h
theorem asLst_i {e : PySem.Expr} {k : List PySem.Expr → Bool} (h : asLst e k = true) : ∃ x p, e = .List x p ∧ k x = true := by
  cases e <;> first | exact ⟨_, _, rfl, h⟩ | cases h
theorem asCon_i {e : PySem.Expr} {k : Const → Bool} (h : asCon e k = true) : ∃ x n p, e = .Constant x n p ∧ k x = true := by
  cases e <;> first | exact ⟨_, _, _, rfl, h⟩ | cases h
theorem asBin_i {e : PySem.Expr} {k : Operator → PySem.Expr → PySem.Expr → Bool} (h : asBin e k = true) : ∃ x o y p, e = .BinOp x o y p ∧ k o x y = true := by
  cases e <;> first | exact ⟨_, _, _, _, rfl, h⟩ | cases h
theorem asUn_i {e : PySem.Expr} {k : UnaryOp → PySem.Expr → Bool} (h : asUn e k = true) : ∃ o x p, e = .UnaryOp o x p ∧ k o x = true := by
  cases e <;> first | exact ⟨_, _, _, rfl, h⟩ | cases h
theorem asCmp_i {e : PySem.Expr} {k : PySem.Expr → List CmpOp → List PySem.Expr → Bool} (h : asCmp e k = true) : ∃ x ps ys p, e = .Compare x ps ys p ∧ k x ps ys = true := by
  cases e <;> first | exact ⟨_, _, _, _, rfl, h⟩ | cases h
theorem asBoo_i {e : PySem.Expr} {k : BoolOp → List PySem.Expr → Pos → Bool} (h : asBoo e k = true) : ∃ o es p, e = .BoolOp o es p ∧ k o es p = true := by
  cases e <;> first | exact ⟨_, _, _, rfl, h⟩ | cases h
theorem asIf_i {e : PySem.Expr} {k : PySem.Expr → PySem.Expr → PySem.Expr → Bool} (h : asIf e k = true) : ∃ x y z p, e = .IfExp x y z p ∧ k x y z = true := by
  cases e <;> first | exact ⟨_, _, _, _, rfl, h⟩ | cases h
theorem asCall_i {e : PySem.Expr} {k : Str → List PySem.Expr → Bool} (h : asCall e k = true) : ∃ x q es p, e = .Call (.Name x q) es [] p ∧ k x es = true := by
  cases e with
  | Call f es ks p =>
    cases f with
    | Name x q => cases ks with
      | nil => exact ⟨_, _, _, _, rfl, h⟩
      | cons _ _ => cases h
    | _ => cases h
  | _ => cases h
theorem asSub_i {e : PySem.Expr} {k : PySem.Expr → PySem.Expr → Bool} (h : asSub e k = true) : ∃ x y p, e = .Subscript x y p ∧ k x y = true := by
  cases e <;> first | exact ⟨_, _, _, rfl, h⟩ | cases h
theorem asSl_i {e : PySem.Expr} {k : Option PySem.Expr → Option PySem.Expr → Bool} (h : asSl e k = true) : ∃ l u p, e = .Slice l u none p ∧ k l u = true := by
  cases e with
  | Slice l u st p => cases st with
    | none => exact ⟨_, _, _, rfl, h⟩
    | some _ => cases h
  | _ => cases h
theorem asComp_i {e : PySem.Expr} {k : PySem.Expr → PySem.Expr → PySem.Expr → List PySem.Expr → Scope → Bool} (h : asComp e k = true) : ∃ x tg it ifs sc p, e = .ListComp x [⟨tg, it, ifs, 0⟩] sc p ∧ k x tg it ifs sc = true := by
  cases e with
  | ListComp x gs sc p =>
    unfold asComp at h
    split at h
    · rename_i q
      cases q
      exact ⟨_, _, _, _, _, _, rfl, h⟩
    · cases h
  | _ => cases h
theorem asComp2_i {e : PySem.Expr} {k : PySem.Expr → PySem.Expr → PySem.Expr → List PySem.Expr → PySem.Expr → PySem.Expr → List PySem.Expr → Scope → Bool} (h : asComp2 e k = true) : ∃ x tg it ifs tg1 it1 ifs1 sc p, e = .ListComp x [⟨tg, it, ifs, 0⟩, ⟨tg1, it1, ifs1, 0⟩] sc p ∧ k x tg it ifs tg1 it1 ifs1 sc = true := by
  cases e with
  | ListComp x gs sc p =>
    unfold asComp2 at h
    split at h
    · rename_i q
      cases q
      exact ⟨_, _, _, _, _, _, _, _, _, rfl, h⟩
    · cases h
  | _ => cases h
theorem as1_i {a : Type} {l : List a} {k : a → Bool} (h : as1 l k = true) : ∃ x, l = [x] ∧ k x = true := by
  match l, h with
  | [x], h => exact ⟨x, rfl, h⟩
theorem as2_i {a : Type} {l : List a} {k : a → a → Bool} (h : as2 l k = true) : ∃ x y, l = [x, y] ∧ k x y = true := by
  match l, h with
  | [x, y], h => exact ⟨x, y, rfl, h⟩
theorem asC_i {a : Type} {l : List a} {k : a → List a → Bool} (h : asC l k = true) : ∃ x r, l = x :: r ∧ k x r = true := by
  match l, h with
  | x :: r, h => exact ⟨x, r, rfl, h⟩
mutual
def mG (Γ : Gam) : Tg → PySem.Expr → Bool
  | .nm i, e => asName e fun x => decide (Γ.N[i]? = some x) && stB Γ x
  | .tp t, e => asTup e fun es => mGs Γ t es && noStar es
  | .nil, _ => false
  | .cons _ _, _ => false
def mGs (Γ : Gam) : Tg → List PySem.Expr → Bool
  | .nil, es => es.isEmpty
  | .cons t ts, es => asC es fun e es => mG Γ t e && mGs Γ ts es
  | .nm _, _ => false
  | .tp _, _ => false
end
def ownOf (N : List Str) (vs : List Nat) : List (Str × Nat) := vs.map fun i => (N.getD i Str.empty, i)
def onePrim : Prim → Bool
  | .len | .abs | .int | .tuple | .list | .sum | .min1 | .max1 => true
  | _ => false
def yesB : Ex → Bool
  | .lit (.bl true) => true
  | _ => false
/-- a comprehension stores into its own slots alone -/
def slB : Ex → Bool
  | .lit _ => true | .var _ => true | .gval _ => true
  | .tup a => slB a | .lst a => slB a
  | .bin _ a b => slB a && slB b | .neg a => slB a
  | .cmp _ a b => slB a && slB b | .cmp2 _ _ a b c => slB a && (slB b && slB c)
  | .and a b => slB a && slB b | .or a b => slB a && slB b | .not a => slB a | .ite c a b => slB c && (slB a && slB b)
  | .call _ _ a => slB a
  | .ix a b => slB a && slB b | .oix _ b => slB b
  | .sl a l h => slB a && (slB l && slB h)
  | .prim _ a => slB a | .prim2 _ a b => slB a && slB b | .isi _ a => slB a | .olen _ => true | .rev a => slB a
  | .lc vs t s c x => (t.slots.all fun i => vs.contains i) && (slB s && (slB c && slB x))
  | .lc2 vs t s c vs1 t1 s1 c1 x => (t.slots.all fun i => vs.contains i) && ((t1.slots.all fun i => vs1.contains i) && ((vs1.all fun i => vs.contains i) && (slB s && (slB c && (slB s1 && (slB c1 && slB x))))))
  | .lend _ a => slB a
  | .nil => true | .cons a b => slB a && slB b
  | .items a => slB a | .rng1 a => slB a | .rng2 a b => slB a && slB b
/-- what may stand as a test -/
def tE : Ex → Bool
  | .ite _ _ _ => false
  | .and a b => tE a && tE b
  | .or a b => tE a && tE b
  | .not a => tE a
  | .lend _ a => tE a
  | _ => true
mutual
def mE (Γ : Gam) : Ex → PySem.Expr → Bool
  | .lit d, e => asCon e fun c => litB d c
  | .var i, e => asName e fun x => decide (Γ.N[i]? = some x) && visB Γ x
  | .gval g, e => asName e fun x => decide (Γ.gls[g]? = some x) && glB Γ x
  | .tup as, e => asTup e fun es => mL Γ as es
  | .lst as, e => asLst e fun es => mL Γ as es
  | .bin o a b, e => asBin e fun p x y => decide (p = opOf o) && (mE Γ a x && mE Γ b y)
  | .neg a, e => asUn e fun p x => decide (p = .USub) && mE Γ a x
  | .cmp o a b, e => asCmp e fun x ps ys => as1 ps fun p => as1 ys fun y => decide (p = copOf o) && (!isSet y && (mE Γ a x && mE Γ b y))
  | .cmp2 o q a b c, e => asCmp e fun x ps ys => as2 ps fun p r => as2 ys fun y z => decide (p = copOf o) && (decide (r = copOf q) && (!isSet z && (mE Γ a x && (mE Γ b y && mE Γ c z))))
  | .and a b, e => asBoo e fun o es pos => decide (o = .And) && asC es fun x r => mE Γ a x && asC r fun y r2 => (match r2 with
    | [] => mE Γ b y
    | _ => mE Γ b (.BoolOp .And (y :: r2) pos))
  | .or a b, e => asBoo e fun o es pos => decide (o = .Or) && asC es fun x r => mE Γ a x && asC r fun y r2 => (match r2 with
    | [] => mE Γ b y
    | _ => mE Γ b (.BoolOp .Or (y :: r2) pos))
  | .not a, e => asUn e fun p x => decide (p = .Not) && mE Γ a x
  | .ite c a b, e => asIf e fun x y z => tE c && (mE Γ c x && (mE Γ a y && mE Γ b z))
  | .call f io as, e => asCall e fun x es => glB Γ x && ((match Γ.fns[f]? with
    | some fi => decide (fi.name = x) && (fi.io == io.isSome)
    | none => false) && (match io with
      | none => asC es fun e es => noStar (e :: es) && mL Γ as (e :: es)
      | some i => asC es fun e es => noStar es && (mL Γ as es && asName e fun y => decide (Γ.N[i]? = some y) && visB Γ y)))
  | .ix a b, e => asSub e fun x y => !isSl y && (mE Γ a x && mE Γ b y)
  | .oix i b, e => asSub e fun x y => !isSl y && (mE Γ b y && asName x fun z => decide (Γ.N[i]? = some z) && visB Γ z)
  | .sl a lo hi, e => asSub e fun x y => mE Γ a x && asSl y fun l h => (match l with
    | none => noneB lo
    | some z => !noneB lo && mE Γ lo z) && (match h with
    | none => noneB hi
    | some z => !noneB hi && mE Γ hi z)
  | .prim p as, e => asCall e fun x es => glB Γ x && (decide (x = p.name) && (onePrim p && as1 es fun y => mL Γ as [y]))
  | .isi p a, e => asCall e fun x es => glB Γ x && (decide (x = ("isinstance" : Str)) && as2 es fun y z => !isStar y && (mE Γ a y && clsB Γ p z))
  | .prim2 p a b, e => asCall e fun x es => glB Γ x && (decide (x = p.name) && as2 es fun y z => !isStar y && (!isStar z && (mE Γ a y && mE Γ b z)))
  | .rev a, e => asSub e fun x y => isRevSl y && mE Γ a x
  | .olen i, e => asCall e fun x es => decide (x = ("len" : Str)) && (glB Γ x && as1 es fun y => asName y fun z => decide (Γ.N[i]? = some z) && visB Γ z)
  | .lc vs t src cond elt, e => asComp e fun x tg it ifs scope => blkC Γ.N Γ.sc scope (ownOf Γ.N vs) && (!isSet it && (mI Γ src it && (mG (Γ.blk scope) t tg && ((t.slots.all fun i => vs.contains i) &&
      (mE (Γ.blk scope) elt x && (match ifs with
        | [] => yesB cond
        | _ => as1 ifs fun c => mE (Γ.blk scope) cond c && tE cond))))))
  | .lc2 vs t src cond vs1 t1 src1 cond1 elt, e => asComp2 e fun x tg it ifs tg1 it1 ifs1 scope => blkC Γ.N Γ.sc scope (ownOf Γ.N vs) && (!isSet it && (!isSet it1 && (mI Γ src it && (mG (Γ.blk scope) t tg && ((t.slots.all fun i => vs.contains i) &&
      (mI (Γ.blk scope) src1 it1 && (mG (Γ.blk scope) t1 tg1 && ((t1.slots.all fun i => vs1.contains i) && ((vs1.all fun i => vs.contains i) &&
      (mE (Γ.blk scope) elt x && ((match ifs with
        | [] => yesB cond
        | _ => as1 ifs fun c => mE (Γ.blk scope) cond c && tE cond) && (match ifs1 with
        | [] => yesB cond1
        | _ => as1 ifs1 fun c => mE (Γ.blk scope) cond1 c && tE cond1))))))))))))
  | .lend _ a, e => slB a && mE Γ a e
  | .nil, _ => false
  | .cons _ _, _ => false
  | .items _, _ => false
  | .rng1 _, _ => false
  | .rng2 _ _, _ => false
def mL (Γ : Gam) : Ex → List PySem.Expr → Bool
  | .nil, es => es.isEmpty
  | .cons a as, es => asC es fun e es => !isStar e && (mE Γ a e && mL Γ as es)
  | _, _ => false
/-- what is walked -/
def mI (Γ : Gam) : Ex → PySem.Expr → Bool
  | .items a, e => mE Γ a e
  | .rng1 a, e => asCall e fun x es => decide (x = ("range" : Str)) && (glB Γ x && as1 es fun y => !isStar y && mE Γ a y)
  | .rng2 a b, e => asCall e fun x es => decide (x = ("range" : Str)) && (glB Γ x && as2 es fun y z => !isStar y && (!isStar z && (mE Γ a y && mE Γ b z)))
  | _, _ => false
end
end Ev
set_option Elab.async false
set_option linter.all false
set_option maxRecDepth 100000
set_option maxHeartbeats 4000000
set_option autoImplicit false
/-! Ev4: built-ins by values; what is wanted behind a tree; the ground. -/
namespace Ev
open PySem PySem.Spec PyProof.Rows L2
section
variable {K : PySem.W.Frag} {O : Addr → Prop} {H H' : Hp} {X : Cx}
def rPrim (K : PySem.W.Frag) (p : Prim) : List V → Hp → VK → Prop := fun xs H Q => ∃ O ds d, (∀ a, O a → H a ≠ none) ∧ Rps K O H ds xs ∧ prim p ds = some d ∧ VOk K O H d Q
theorem prim_one {p : Prim} {ds : List D} {d : D} (h : prim p ds = some d) : ∃ x, ds = [x] := by
  match ds with
  | [] => cases p <;> cases h
  | [x] => exact ⟨x, rfl⟩
  | x :: y :: r => cases p <;> cases x <;> cases h
theorem Rps.one {x : D} {vs : List V} (h : Rps K O H [x] vs) : ∃ v, vs = [v] ∧ Rp K O H x v := by
  obtain ⟨v, r, e, h1, h2⟩ := h.uncons
  rw [h2.unnil] at e
  exact ⟨v, e, h1⟩
theorem len_ok : CallR X (.builtin "len") (rPrim X.K .len) := by
  intro pins s σ H xs us Q I rv h
  obtain ⟨O, ds, d, hO, r, hp, q⟩ := h
  obtain ⟨x, rfl⟩ := prim_one hp
  obtain ⟨v, rfl, hx⟩ := r.one
  cases x with
  | tup as =>
    simp only [prim] at hp
    split at hp
    · cases hp
      obtain ⟨a, vs, e, s1, r1⟩ := hx.untup
      refine call_len_seq pins s σ H _ us Q I rv ⟨a, vs, by rw [e], .inr s1, ?_⟩
      rw [← r1.len]
      exact q.same (.int _)
    · cases hp
  | lst as =>
    simp only [prim] at hp
    split at hp
    · cases hp
      obtain ⟨a, vs, e, _, s1, r1⟩ := hx.unlst
      refine call_len_seq pins s σ H _ us Q I rv ⟨a, vs, by rw [e], .inl (.inl (.inl s1)), ?_⟩
      rw [← r1.len]
      exact q.same (.int _)
    · cases hp
  | fz as =>
    simp only [prim] at hp
    split at hp
    · cases hp
      obtain ⟨a, vs, e, s1, r1⟩ := hx.unfz
      refine call_len_seq pins s σ H _ us Q I rv ⟨a, vs, by rw [e], .inl s1, ?_⟩
      rw [← r1.len]
      exact q.same (.int _)
    · cases hp
  | _ => cases hp
theorem abs_ok : CallR X (.builtin "abs") (rPrim X.K .abs) := by
  intro pins s σ H xs us Q I rv h
  obtain ⟨O, ds, d, hO, r, hp, q⟩ := h
  obtain ⟨x, rfl⟩ := prim_one hp
  obtain ⟨v, rfl, hx⟩ := r.one
  cases x with
  | int i =>
    cases hp
    exact call_abs pins s σ H _ us Q I rv ⟨i, by rw [hx.unint], q.same (.int _)⟩
  | _ => cases hp
theorem int_ok : CallR X (.type "int") (rPrim X.K .int) := by
  intro pins s σ H xs us Q I rv h
  obtain ⟨O, ds, d, hO, r, hp, q⟩ := h
  obtain ⟨x, rfl⟩ := prim_one hp
  obtain ⟨v, rfl, hx⟩ := r.one
  cases x with
  | int i =>
    cases hp
    exact call_int1 pins s σ H _ us Q I rv (.inl ⟨i, by rw [hx.unint], q.same (.int _)⟩)
  | bl b =>
    cases hp
    exact call_int1 pins s σ H _ us Q I rv (.inr ⟨b, by rw [hx.unbl], q.same (.int _)⟩)
  | _ => cases hp
theorem tuple_ok : CallR X (.type "tuple") (rPrim X.K .tuple) := by
  intro pins s σ H xs us Q I rv h
  obtain ⟨O, ds, d, hO, r, hp, q⟩ := h
  obtain ⟨x, rfl⟩ := prim_one hp
  obtain ⟨v, rfl, hx⟩ := r.one
  cases x with
  | tup as =>
    cases hp
    obtain ⟨a, vs, e, s1, r1⟩ := hx.untup
    exact call_tuple_of pins s σ H _ us Q I rv ⟨a, vs, by rw [e], .inr ⟨s1, q.same (.tup s1 r1)⟩⟩
  | lst as =>
    cases hp
    obtain ⟨a, vs, e, _, s1, r1⟩ := hx.unlst
    exact call_tuple_of pins s σ H _ us Q I rv ⟨a, vs, by rw [e], .inl ⟨.inl (.inl s1), fun l hl => q.newT r1 hl⟩⟩
  | _ => cases hp
theorem list_ok : CallR X (.type "list") (rPrim X.K .list) := by
  intro pins s σ H xs us Q I rv h
  obtain ⟨O, ds, d, hO, r, hp, q⟩ := h
  obtain ⟨x, rfl⟩ := prim_one hp
  obtain ⟨v, rfl, hx⟩ := r.one
  cases x with
  | tup as =>
    cases hp
    obtain ⟨a, vs, e, s1, r1⟩ := hx.untup
    exact call_list_of pins s σ H _ us Q I rv ⟨a, vs, by rw [e], .inr s1, fun l hl => q.newL hO r1 hl⟩
  | lst as =>
    cases hp
    obtain ⟨a, vs, e, _, s1, r1⟩ := hx.unlst
    exact call_list_of pins s σ H _ us Q I rv ⟨a, vs, by rw [e], .inl (.inl (.inl s1)), fun l hl => q.newL hO r1 hl⟩
  | _ => cases hp
theorem intsOf_eq : ∀ {ds : List D} {ns : List Int}, intsOf ds = some ns → ds = ns.map D.int
  | [], ns, h => by cases h; rfl
  | d :: ds, ns, h => by
    cases d with
    | int i =>
      simp only [intsOf] at h
      cases z : intsOf ds with
      | none => rw [z] at h; cases h
      | some is =>
        rw [z] at h
        cases h
        rw [intsOf_eq z]
        rfl
    | _ => cases h
theorem Rps.ints_eq : ∀ {ns : List Int} {vs : List V}, Rps K O H (ns.map D.int) vs → vs = ns.map V.int
  | [], vs, h => h.unnil
  | n :: ns, vs, h => by
    obtain ⟨v, r, e, h1, h2⟩ := Rps.uncons h
    rw [e, h1.unint, Rps.ints_eq h2]
    rfl
theorem leastOf_ok : ∀ (is : List Int) (m : Int), leastOf is m ∈ m :: is ∧ ∀ y ∈ m :: is, leastOf is m ≤ y
  | [], m => ⟨List.mem_cons_self, fun y hy => by cases List.mem_singleton.mp hy; exact Int.le_refl _⟩
  | i :: is, m => by
    unfold leastOf
    split
    · rename_i h
      obtain ⟨a, b⟩ := leastOf_ok is i
      refine ⟨List.mem_cons_of_mem _ a, fun y hy => ?_⟩
      rcases List.mem_cons.mp hy with rfl | hy
      · exact Int.le_trans (b i List.mem_cons_self) (Int.le_of_lt h)
      · exact b y hy
    · rename_i h
      obtain ⟨a, b⟩ := leastOf_ok is m
      refine ⟨?_, fun y hy => ?_⟩
      · rcases List.mem_cons.mp a with e | e
        · rw [e]; exact List.mem_cons_self
        · exact List.mem_cons_of_mem _ (List.mem_cons_of_mem _ e)
      · rcases List.mem_cons.mp hy with rfl | hy
        · exact b _ List.mem_cons_self
        · rcases List.mem_cons.mp hy with rfl | hy
          · exact Int.le_trans (b m List.mem_cons_self) (by omega)
          · exact b y (List.mem_cons_of_mem _ hy)
theorem mostOf_ok : ∀ (is : List Int) (m : Int), mostOf is m ∈ m :: is ∧ ∀ y ∈ m :: is, y ≤ mostOf is m
  | [], m => ⟨List.mem_cons_self, fun y hy => by cases List.mem_singleton.mp hy; exact Int.le_refl _⟩
  | i :: is, m => by
    unfold mostOf
    split
    · rename_i h
      obtain ⟨a, b⟩ := mostOf_ok is i
      refine ⟨List.mem_cons_of_mem _ a, fun y hy => ?_⟩
      rcases List.mem_cons.mp hy with rfl | hy
      · exact Int.le_trans (Int.le_of_lt h) (b i List.mem_cons_self)
      · exact b y hy
    · rename_i h
      obtain ⟨a, b⟩ := mostOf_ok is m
      refine ⟨?_, fun y hy => ?_⟩
      · rcases List.mem_cons.mp a with e | e
        · rw [e]; exact List.mem_cons_self
        · exact List.mem_cons_of_mem _ (List.mem_cons_of_mem _ e)
      · rcases List.mem_cons.mp hy with rfl | hy
        · exact b _ List.mem_cons_self
        · rcases List.mem_cons.mp hy with rfl | hy
          · exact Int.le_trans (by omega) (b m List.mem_cons_self)
          · exact b y (List.mem_cons_of_mem _ hy)
theorem sum_ok (hc : X.calm = true) : CallR X (.builtin "sum") (rPrim X.K .sum) := by
  intro pins s σ H xs us Q I rv h
  obtain ⟨O, ds, d, hO, r, hp, q⟩ := h
  obtain ⟨x, rfl⟩ := prim_one hp
  obtain ⟨v, rfl, hx⟩ := r.one
  cases x with
  | lst as =>
    simp only [prim] at hp
    cases z : intsOf as with
    | none => rw [z] at hp; cases hp
    | some ns =>
      rw [z] at hp
      cases hp
      obtain ⟨a, vs, e, _, s1, r1⟩ := hx.unlst
      rw [intsOf_eq z] at r1
      rw [r1.ints_eq] at s1
      exact cr_sum hc pins s σ H _ us Q I rv ⟨a, ns, by rw [e], .inl (.inl s1), q.same (.int _)⟩
  | tup as =>
    simp only [prim] at hp
    cases z : intsOf as with
    | none => rw [z] at hp; cases hp
    | some ns =>
      rw [z] at hp
      cases hp
      obtain ⟨a, vs, e, s1, r1⟩ := hx.untup
      subst e
      rw [intsOf_eq z] at r1
      rw [r1.ints_eq] at s1
      obtain ⟨its, rv', pl, hz⟩ := I.tuple s1
      rw [Vals.ref1 rv]
      have hi : IntsAre its ns := rv'.ints
      obtain ⟨xs, ex⟩ := hi.allInts.items
      have hn : numsOf (intItems xs).toList = ns := by rw [← ex]; exact hi.numsOf
      rw [nums_intItems] at hn
      rw [ex] at pl
      refine PySem.W.ktm_sumG (I.ok.hd hc) pl fun h' tk t' hk => ?_
      have hs : preSum (numAt xs) xs.size = ns.sum := by rw [preSum_eq, List.take_of_length_le (by simp), hn]
      rw [hs]
      exact ⟨.int ns.sum, H, I.kept hk, ⟨_, rfl⟩, q.same (.int _)⟩
  | _ => cases hp
theorem min_ok (hc : X.calm = true) : CallR X (.builtin "min") (rPrim X.K .min1) := by
  intro pins s σ H xs us Q I rv h
  obtain ⟨O, ds, d, hO, r, hp, q⟩ := h
  obtain ⟨x, rfl⟩ := prim_one hp
  obtain ⟨v, rfl, hx⟩ := r.one
  cases x with
  | lst as =>
    simp only [prim] at hp
    split at hp
    · rename_i i is z
      cases hp
      obtain ⟨a, vs, e, _, s1, r1⟩ := hx.unlst
      rw [intsOf_eq z] at r1
      rw [r1.ints_eq] at s1
      refine cr_min hc pins s σ H _ us Q I rv ⟨a, i :: is, by rw [e], .inl (.inl s1), Nat.succ_pos _, fun m h1 h2 => ?_⟩
      obtain ⟨k1, k2⟩ := leastOf_ok is i
      have e : m = leastOf is i := Int.le_antisymm (h2 _ k1) (k2 _ h1)
      rw [e]
      exact q.same (.int _)
    · cases hp
  | _ => cases hp
theorem max_ok (hc : X.calm = true) : CallR X (.builtin "max") (rPrim X.K .max1) := by
  intro pins s σ H xs us Q I rv h
  obtain ⟨O, ds, d, hO, r, hp, q⟩ := h
  obtain ⟨x, rfl⟩ := prim_one hp
  obtain ⟨v, rfl, hx⟩ := r.one
  cases x with
  | lst as =>
    simp only [prim] at hp
    split at hp
    · rename_i i is z
      cases hp
      obtain ⟨a, vs, e, _, s1, r1⟩ := hx.unlst
      rw [intsOf_eq z] at r1
      rw [r1.ints_eq] at s1
      refine cr_max hc pins s σ H _ us Q I rv ⟨a, i :: is, by rw [e], .inl (.inl s1), Nat.succ_pos _, fun m h1 h2 => ?_⟩
      obtain ⟨k1, k2⟩ := mostOf_ok is i
      have e : m = mostOf is i := Int.le_antisymm (k2 _ h1) (h2 _ k1)
      rw [e]
      exact q.same (.int _)
    · cases hp
  | _ => cases hp
def rPrim2 (K : PySem.W.Frag) (p : Prim2) : List V → Hp → VK → Prop := fun xs H Q => ∃ O d1 d2 d v1 v2, xs = [v1, v2] ∧ Rp K O H d1 v1 ∧ Rp K O H d2 v2 ∧ prim2 p d1 d2 = some d ∧ VOk K O H d Q
theorem prim2_i {p : Prim2} {d1 d2 d : D} (h : prim2 p d1 d2 = some d) : ∃ i j, d1 = .int i ∧ d2 = .int j := by
  cases d1 with
  | int i => cases d2 with
    | int j => exact ⟨i, j, rfl, rfl⟩
    | _ => cases p <;> cases h
  | _ => cases p <;> cases h
theorem min2_ok (hc : X.calm = true) : CallR X (.builtin "min") (rPrim2 X.K .min2) := by
  intro pins s σ H xs us Q I rv h
  obtain ⟨O, d1, d2, d, v1, v2, rfl, h1, h2, hp, q⟩ := h
  obtain ⟨i, j, rfl, rfl⟩ := prim2_i hp
  cases hp
  exact call_min2 hc pins s σ H _ us Q I rv ⟨i, j, by rw [h1.unint, h2.unint], q.same (.int _)⟩
theorem max2_ok (hc : X.calm = true) : CallR X (.builtin "max") (rPrim2 X.K .max2) := by
  intro pins s σ H xs us Q I rv h
  obtain ⟨O, d1, d2, d, v1, v2, rfl, h1, h2, hp, q⟩ := h
  obtain ⟨i, j, rfl, rfl⟩ := prim2_i hp
  cases hp
  exact call_max2 hc pins s σ H _ us Q I rv ⟨i, j, by rw [h1.unint, h2.unint], q.same (.int _)⟩
/-! ### isinstance -/
def D.tyN : D → String
  | .non => "NoneType"
  | .bl _ => "bool"
  | .int _ => "int"
  | .str _ => "str"
  | .tup _ => "tuple"
  | _ => "list"
theorem Rp.ty {d : D} {v : V} (h : Rp K O H d v) (n : ∀ ds, d ≠ .fz ds) : TyX K H v (.type d.tyN) := by
  cases d with
  | non => rw [h.unnon]; exact .base .non
  | bl b => rw [h.unbl]; exact .base (.bl b)
  | int i => rw [h.unint]; exact .base (.int i)
  | str x => rw [h.unstr]; exact .base (.str x)
  | tup ds =>
    obtain ⟨a, vs, e, s, r⟩ := h.untup
    rw [e]
    rcases s with (s | ⟨o, s⟩) | ⟨o, its, n, s, c, _⟩
    · exact .base (.tup s)
    · exact .fTuple s
    · exact .kTuple s c
  | lst ds =>
    obtain ⟨a, vs, e, _, s, r⟩ := h.unlst
    rw [e]
    exact .base (.lst s)
  | fz ds => exact absurd rfl (n ds)
def clsN : Prim → String
  | .isInt => "int"
  | .isBool => "bool"
  | .isTup => "tuple"
  | .isLst => "list"
  | .isStr => "str"
  | _ => "int"
theorem kit_NoneType_int : kitB "NoneType" "int" = some false := by decide +kernel
theorem kit_bool_int : kitB "bool" "int" = some true := by decide +kernel
theorem kit_int_int : kitB "int" "int" = some true := by decide +kernel
theorem kit_str_int : kitB "str" "int" = some false := by decide +kernel
theorem kit_tuple_int : kitB "tuple" "int" = some false := by decide +kernel
theorem kit_list_int : kitB "list" "int" = some false := by decide +kernel
theorem kit_NoneType_bool : kitB "NoneType" "bool" = some false := by decide +kernel
theorem kit_bool_bool : kitB "bool" "bool" = some true := by decide +kernel
theorem kit_int_bool : kitB "int" "bool" = some false := by decide +kernel
theorem kit_str_bool : kitB "str" "bool" = some false := by decide +kernel
theorem kit_tuple_bool : kitB "tuple" "bool" = some false := by decide +kernel
theorem kit_list_bool : kitB "list" "bool" = some false := by decide +kernel
theorem kit_NoneType_tuple : kitB "NoneType" "tuple" = some false := by decide +kernel
theorem kit_bool_tuple : kitB "bool" "tuple" = some false := by decide +kernel
theorem kit_int_tuple : kitB "int" "tuple" = some false := by decide +kernel
theorem kit_str_tuple : kitB "str" "tuple" = some false := by decide +kernel
theorem kit_tuple_tuple : kitB "tuple" "tuple" = some true := by decide +kernel
theorem kit_list_tuple : kitB "list" "tuple" = some false := by decide +kernel
theorem kit_NoneType_list : kitB "NoneType" "list" = some false := by decide +kernel
theorem kit_bool_list : kitB "bool" "list" = some false := by decide +kernel
theorem kit_int_list : kitB "int" "list" = some false := by decide +kernel
theorem kit_str_list : kitB "str" "list" = some false := by decide +kernel
theorem kit_tuple_list : kitB "tuple" "list" = some false := by decide +kernel
theorem kit_list_list : kitB "list" "list" = some true := by decide +kernel
theorem kit_NoneType_str : kitB "NoneType" "str" = some false := by decide +kernel
theorem kit_bool_str : kitB "bool" "str" = some false := by decide +kernel
theorem kit_int_str : kitB "int" "str" = some false := by decide +kernel
theorem kit_str_str : kitB "str" "str" = some true := by decide +kernel
theorem kit_tuple_str : kitB "tuple" "str" = some false := by decide +kernel
theorem kit_list_str : kitB "list" "str" = some false := by decide +kernel
theorem kit_int (x : D) : kitB x.tyN "int" = some (match x with | .int _ => true | .bl _ => true | _ => false) := by
  cases x with
  | non => exact kit_NoneType_int
  | bl _ => exact kit_bool_int
  | int _ => exact kit_int_int
  | str _ => exact kit_str_int
  | tup _ => exact kit_tuple_int
  | lst _ => exact kit_list_int
  | fz _ => exact kit_list_int
theorem kit_bool (x : D) : kitB x.tyN "bool" = some (match x with | .bl _ => true | _ => false) := by
  cases x with
  | non => exact kit_NoneType_bool
  | bl _ => exact kit_bool_bool
  | int _ => exact kit_int_bool
  | str _ => exact kit_str_bool
  | tup _ => exact kit_tuple_bool
  | lst _ => exact kit_list_bool
  | fz _ => exact kit_list_bool
theorem kit_tuple (x : D) : kitB x.tyN "tuple" = some (match x with | .tup _ => true | _ => false) := by
  cases x with
  | non => exact kit_NoneType_tuple
  | bl _ => exact kit_bool_tuple
  | int _ => exact kit_int_tuple
  | str _ => exact kit_str_tuple
  | tup _ => exact kit_tuple_tuple
  | lst _ => exact kit_list_tuple
  | fz _ => exact kit_list_tuple
theorem kit_list (x : D) : kitB x.tyN "list" = some (match x with | .lst _ => true | .fz _ => true | _ => false) := by
  cases x with
  | non => exact kit_NoneType_list
  | bl _ => exact kit_bool_list
  | int _ => exact kit_int_list
  | str _ => exact kit_str_list
  | tup _ => exact kit_tuple_list
  | lst _ => exact kit_list_list
  | fz _ => exact kit_list_list
theorem kit_str (x : D) : kitB x.tyN "str" = some (match x with | .str _ => true | _ => false) := by
  cases x with
  | non => exact kit_NoneType_str
  | bl _ => exact kit_bool_str
  | int _ => exact kit_int_str
  | str _ => exact kit_str_str
  | tup _ => exact kit_tuple_str
  | lst _ => exact kit_list_str
  | fz _ => exact kit_list_str
theorem isi_ok {p : Prim} {x : D} {d : D} {v : V} {Q : VK} (hp : p = .isInt ∨ p = .isBool ∨ p = .isTup ∨ p = .isLst ∨ p = .isStr) (h : Rp K O H x v) (e : prim p [x] = some d) (q : VOk K O H d Q) : rIsi K [v, .ty (clsN p)] H Q := by
  have go : ∀ b : Bool, (∀ ds, x ≠ .fz ds) → kitB x.tyN (clsN p) = some b → d = .bl b → rIsi K [v, .ty (clsN p)] H Q := fun b n k z => by
    subst z
    exact ⟨v, .ty (clsN p), .type x.tyN, .type (clsN p), b, rfl, .ty _, h.ty n, kit_ty k, q.same (.bl b)⟩
  rcases hp with rfl | rfl | rfl | rfl | rfl
  · cases x <;> first
      | (cases e; done)
      | (cases e; exact go _ (fun _ z => by cases z) (kit_int _) rfl)
  · cases x <;> first
      | (cases e; done)
      | (cases e; exact go _ (fun _ z => by cases z) (kit_bool _) rfl)
  · cases x <;> first
      | (cases e; done)
      | (cases e; exact go _ (fun _ z => by cases z) (kit_tuple _) rfl)
  · cases x <;> first
      | (cases e; done)
      | (cases e; exact go _ (fun _ z => by cases z) (kit_list _) rfl)
  · cases x <;> first
      | (cases e; done)
      | (cases e; exact go _ (fun _ z => by cases z) (kit_str _) rfl)
theorem isiT_ok {x : D} {d : D} {v : V} {Q : VK} {tp : Addr} (h : Rp K O H x v) (ht : H tp = some (.tup [.ty "tuple", .ty "list"])) (e : prim .isSeq [x] = some d) (q : VOk K O H d Q) : rIsiT K [v, .ref tp] H Q := by
  have go : ∀ b c : Bool, (∀ ds, x ≠ .fz ds) → kitB x.tyN "tuple" = some b → kitB x.tyN "list" = some c → d = .bl (b || c) → rIsiT K [v, .ref tp] H Q := fun b c n k1 k2 z => by
    subst z
    refine ⟨v, tp, _, .type x.tyN, [.type "tuple", .type "list"], b || c, rfl, ht, .cons (.ty _) (.cons (.ty _) .nil), h.ty n, ?_, q.same (.bl _)⟩
    refine kitAny_cons (kit_ty k1) (fun z => ?_) (fun z => by rw [z]; rfl)
    subst z
    refine kitAny_cons (kit_ty k2) (fun z => ?_) (fun z => by rw [z]; rfl)
    subst z
    rfl
  cases x <;> first
    | (cases e; done)
    | (cases e; exact go _ _ (fun _ z => by cases z) (kit_tuple _) (kit_list _) rfl)
end
end Ev
set_option Elab.async false
set_option linter.all false
set_option maxRecDepth 100000
set_option maxHeartbeats 4000000
set_option autoImplicit false
/-! Ev5: what is wanted behind a tree; the ground; expressions. -/
namespace Ev
open PySem PySem.Spec PyProof.Rows L2
/-- how an error stands: its class, its own dict -/
abbrev RXT := Exn → Value → Option Addr → Hp → Prop
section
variable (RX : RXT) (K : PySem.W.Frag) (W : WX)
/-- what is wanted behind a tree -/
def Post {a b : Type} (B : Addr → Prop) (e : Env) (σ : L2.St) (H : Hp) (Rel : (Addr → Prop) → Hp → a → b → Prop) (r : R a) (Q : b → Hp → Prop) : Prop := match r with
  | .ok x e' => ∀ y H', RSt K B H' e' σ → Stp H e σ H' e' σ → Rel (Of B e' σ) H' x y → Q y H'
  | .ex x e' => ∀ c dd H', RSt K B H' e' σ → Stp H e σ H' e' σ → RX x c dd H' → W c dd σ H'
  | .no => False
end
section
variable {RX : RXT} {K : PySem.W.Frag} {W : WX} {B : Addr → Prop} {e e1 : Env} {σ : L2.St} {H H1 : Hp} {a b c d : Type} {Rel : (Addr → Prop) → Hp → a → b → Prop} {Rel2 : (Addr → Prop) → Hp → c → d → Prop}
theorem Post.shift {r : R a} {Q : b → Hp → Prop} (st : Stp H e σ H1 e1 σ) (h : Post RX K W B e σ H Rel r Q) : Post RX K W B e1 σ H1 Rel r Q := by
  cases r with
  | ok x e' => exact fun y H' rs s rl => h y H' rs (st.trans s) rl
  | ex x e' => exact fun y dd H' rs s rl => h y dd H' rs (st.trans s) rl
  | no => exact h
theorem Post.bind {r : R a} {f : a → Env → R c} {Q2 : d → Hp → Prop} {Q : b → Hp → Prop} (h : Post RX K W B e σ H Rel2 (r.bind f) Q2)
    (k : ∀ x e1 y H1, r = .ok x e1 → RSt K B H1 e1 σ → Stp H e σ H1 e1 σ → Rel (Of B e1 σ) H1 x y → Post RX K W B e1 σ H1 Rel2 (f x e1) Q2 → Q y H1) : Post RX K W B e σ H Rel r Q := by
  cases r with
  | ok x e1 => exact fun y H1 rs st rl => k x e1 y H1 rfl rs st rl (Post.shift st h)
  | ex x e1 => exact h
  | no => exact h
theorem Post.mono {r : R a} {Q Q' : b → Hp → Prop} (h : Post RX K W B e σ H Rel r Q) (k : ∀ y H', Q y H' → Q' y H') : Post RX K W B e σ H Rel r Q' := by
  cases r with
  | ok x e1 => exact fun y H1 rs st rl => k _ _ (h y H1 rs st rl)
  | ex x e1 => exact h
  | no => exact h
theorem RSt.al (rs : RSt K B H e σ) (x : Addr) (h : Of B e σ x) : H x ≠ none := by
  obtain ⟨vs, q⟩ := rs.ofs h
  rw [q]
  exact fun z => by cases z
/-- at a value's end -/
theorem Post.vok {o : Option D} {Q : VK} (rs : RSt K B H e σ) (h : Post RX K W B e σ H (Rp K) (R.of o e) Q) : ∃ x, o = some x ∧ VOk K (Of B e σ) H x Q := by
  cases o with
  | none => exact h.elim
  | some x =>
    refine ⟨x, rfl, fun v H' ex r => ?_⟩
    rcases ex with rfl | ⟨p, ob, hp, rfl⟩
    · exact h v _ rs .refl r
    · obtain ⟨rs', st⟩ := rs.laid (o := ob) hp
      exact h v _ rs' st r
theorem Post.same {x : D} {Q : VK} (rs : RSt K B H e σ) (h : Post RX K W B e σ H (Rp K) (.ok x e) Q) : VOk K (Of B e σ) H x Q := by
  obtain ⟨y, q, z⟩ := Post.vok (o := some x) rs h
  cases q
  exact z
end
/-! ### the ground -/
def retArgs (args : List Sl) (cs : List D) : List Sl := match args with
  | .own _ :: r => .own cs :: r
  | r => r
/-- what a def of the table promises -/
def spF (RX : RXT) (K : PySem.W.Frag) (c : Call) (f np : Nat) : Sp := fun vs H Q E => vs.length = np ∧ ∃ (B : Addr → Prop) (args : List Sl), RSt K B H (args.map some) (vs.map some) ∧ (match c f args with
  | .ok d cs => ∀ v H', RSt K B H' ((retArgs args cs).map some) (vs.map some) → Stp H (args.map some) (vs.map some) H' ((retArgs args cs).map some) (vs.map some) → Rp K (Of B ((retArgs args cs).map some) (vs.map some)) H' d v → Q v H'
  | .ex x => ∀ cl dd H', RSt K B H' (args.map some) (vs.map some) → Stp H (args.map some) (vs.map some) H' (args.map some) (vs.map some) → RX x cl dd H' → E cl dd H'
  | .no => False)
structure Ok (RX : RXT) (Γ : Gam) (C : Ctx) (gv : Nat → V) (X : Cx) (W : WX) : Prop where
  calm : X.calm = true
  nd : Γ.N.Nodup
  hN : X.N = Γ.N
  hsc : X.env.scope = Γ.sc
  kd : Γ.sc.kind = .function
  fn : ∀ x, (match Γ.cs with | none => true | some sc => sc.names.lookup x == some .cell) = true → X.fn x = true
  tk : Takes X W
  hu : X.A.units + 65 < cLine
  call : ∀ f fi, Γ.fns[f]? = some fi → ∃ (ad : Addr) (fd : FuncData) (k : Nat), X.mg fi.name = some (.ref ad) ∧ PySem.W.keepIn X.K (.ref ad) = true ∧ Binds X.K fd fi.ps [] ∧ Room k X.A ∧
    FnOk X.prog X.w X.K X.mg X.base (L2.CX X.prog X.w) k ad fd fi.ps (spF RX X.K C.call f fi.ps.length)
  glob : ∀ g n, Γ.gls[g]? = some n → ∃ u, X.mg n = some u ∧ RelV (gv g) u
  blt : ∀ n, n ∈ bltNames → X.mg n = none
/-- what holds of the table, whatever runs -/
structure St0 (Γ : Gam) (C : Ctx) (gv : Nat → V) (K : PySem.W.Frag) : Prop where
  ar : ∀ (f : Nat) (fi : FnI) (args : List Sl), Γ.fns[f]? = some fi → args.length ≠ fi.ps.length → C.call f args = .no
  glob : ∀ (g : Nat) (n : Str), Γ.gls[g]? = some n → ∀ O H, Rp K O H (C.glob g) (gv g)
section
variable {RX : RXT} {Γ : Gam} {C : Ctx} {gv : Nat → V} {X : Cx} {W : WX}
theorem and2 {a b : Bool} (h : (a && b) = true) : a = true ∧ b = true := Bool.and_eq_true_iff.mp h
theorem Ok.vis (ok : Ok RX Γ C gv X W) {x : Str} (h : visB Γ x = true) : Vis X.env.scope x ∧ (x == ("__debug__" : Str)) = false ∧ (x == ("__classdict__" : Str)) = false := by
  unfold visB badName at h
  obtain ⟨h1, h2⟩ := and2 h
  simp only [Bool.not_eq_true', Bool.or_eq_false_iff] at h2
  refine ⟨?_, h2.1.1, h2.1.2⟩
  rw [ok.hsc]
  unfold Vis
  split at h1 <;> first | (rename_i q; exact .inl q) | (rename_i q; exact .inr (.inl q)) | (rename_i q; exact .inr (.inr q)) | cases h1
theorem Ok.gl (ok : Ok RX Γ C gv X W) {x : Str} (h : glB Γ x = true) : Gl X x ∧ (x == ("__debug__" : Str)) = false ∧ x ≠ "__name__" := by
  unfold glB badName at h
  obtain ⟨h1, h2⟩ := and2 h
  simp only [Bool.not_eq_true', Bool.or_eq_false_iff] at h2
  refine ⟨?_, h2.1.1, fun z => ?_⟩
  · unfold Gl
    show X.env.scope.names.lookup x = _
    rw [ok.hsc]
    split at h1 <;> first | (rename_i q; exact q) | cases h1
  · have := h2.2
    rw [z] at this
    revert this
    decide
theorem Ok.st (ok : Ok RX Γ C gv X W) {x : Str} (h : stB Γ x = true) : L2.Loc X.env.scope x ∧ (X.fn x = true ∨ X.env.scope.names.lookup x = some .local) := by
  unfold stB at h
  rw [ok.hsc]
  unfold L2.Loc
  cases q : Γ.sc.names.lookup x with
  | none => rw [q] at h; cases h
  | some k =>
    rw [q] at h
    cases k with
    | «local» => exact ⟨.inl rfl, .inr rfl⟩
    | cell => exact ⟨.inr rfl, .inl (ok.fn x h)⟩
    | _ => cases h
/-! ### the judgements: over every ground of this kind -/
abbrev PostE (RX : RXT) (K : PySem.W.Frag) (W : WX) (B : Addr → Prop) (e : Env) (σ : L2.St) (H : Hp) (r : R D) (Q : VK) : Prop := Post RX K W B e σ H (Rp K) r Q
def tst (f : Env → R D) : Env → R Bool := fun e => (f e).bind fun d e => R.of d.tr e
def eqB : (Addr → Prop) → Hp → Bool → Bool → Prop := fun _ _ a b => a = b
section
variable (RX : RXT) (Γ : Gam) (C : Ctx) (gv : Nat → V) (K : PySem.W.Frag) (W : WX)
def SE (ex : PySem.Expr) (f : Env → R D) : Prop := ∃ t, (∀ X, Ok RX Γ C gv X W → X.K = K → PE X ex t) ∧ ∀ B e σ H Q, RSt K B H e σ → PostE RX K W B e σ H (f e) Q → t σ H Q
def ST (ex : PySem.Expr) (f : Env → R D) : Prop := ∃ t, (∀ X, Ok RX Γ C gv X W → X.K = K → PT X ex t) ∧ ∀ B e σ H Q, RSt K B H e σ → Post RX K W B e σ H eqB (tst f e) Q → t σ H Q
/-- a test of many parts: what comes after the first -/
def SW (ex : PySem.Expr) (f : Env → R D) : Prop := ∃ t, (∀ X, Ok RX Γ C gv X W → X.K = K → PW X ex t) ∧ ∀ B e σ H Q, RSt K B H e σ → Post RX K W B e σ H eqB (tst f e) Q → t σ H Q
def SL (es : List PySem.Expr) (f : Env → R (List D)) : Prop := ∃ t, (∀ X, Ok RX Γ C gv X W → X.K = K → PA X es t) ∧ ∀ B e σ H Q, RSt K B H e σ → Post RX K W B e σ H (Rps K) (f e) Q → t σ H Q
/-- a part of a slice -/
def SP1 (o : Option PySem.Expr) (f : Env → R (Option Int)) : Prop := ∃ t, (∀ X, Ok RX Γ C gv X W → X.K = K → PO X o t) ∧ ∀ B e σ H Q, RSt K B H e σ → Post RX K W B e σ H (fun _ _ d p => d = p) (f e) Q → t σ H Q
/-- what is walked: a list, a tuple, a range -/
def Wk (O : Addr → Prop) (H : Hp) (ds : List D) (J : It) : Prop :=
  (∃ a, J = Itl K a ∧ (Rp K O H (.lst ds) (.ref a) ∨ Rp K O H (.fz ds) (.ref a))) ∨ (∃ a, J = Itt K a ∧ Rp K O H (.tup ds) (.ref a)) ∨ ∃ (lo : Int) (n : Nat), J = Itr lo n ∧ ds = range_ lo n
def SI (tg ex : PySem.Expr) (f : Env → R (List D)) : Prop := ∃ t, (∀ X, Ok RX Γ C gv X W → X.K = K → PI X tg ex t) ∧ ∀ B e σ H Q, RSt K B H e σ → Post RX K W B e σ H (Wk K) (f e) Q → t σ H Q
end
section
variable {K : PySem.W.Frag} {ex : PySem.Expr} {f : Env → R D}
theorem SE.test (h : SE RX Γ C gv K W ex f) (he : ∀ (env : PySem.Env) whole, isTrue ex env whole = (do let v ← whole; standAt ex.pos; holding [v] (truthy v))) : ST RX Γ C gv K W ex f := by
  obtain ⟨t, p, q⟩ := h
  refine ⟨fun σ H Q => t σ H fun x H' => ∃ k, TruV K x H' k ∧ Q k H', fun X ok hK => by subst hK; exact pt_truth (p X ok rfl) (he _), fun B e σ H Q rs h => ?_⟩
  refine q B e σ H _ rs (Post.bind h fun d e1 v H1 _ rs1 _ rl h1 => ?_)
  cases z : d.tr with
  | none =>
    rw [z] at h1
    exact h1.elim
  | some b =>
    rw [z] at h1
    exact ⟨b, truth_val rl z, h1 b H1 rs1 .refl rfl⟩
theorem star_cons {ex : PySem.Expr} {es : List PySem.Expr} {env : PySem.Env} (h : isStar ex = false) : starEach (ex :: es) env = (false, eval ex env) :: starEach es env := by
  cases ex <;> first | rfl | cases h
theorem star_any {pos : Pos} {env : PySem.Env} : ∀ {es : List PySem.Expr}, noStar es = true → (backTo pos (starEach es env)).any (·.1) = false
  | [], _ => rfl
  | ex :: es, h => by
    unfold noStar at h
    rw [List.all_cons] at h
    obtain ⟨h1, h2⟩ := and2 h
    rw [star_cons (by simpa using h1)]
    show (false || (backTo pos (starEach es env)).any (·.1)) = false
    rw [star_any h2]
    rfl
theorem se_lit {dv : D} {cst : Const} {n : Nat} {pos : Pos} (h : litB dv cst = true) : SE RX Γ C gv K W (.Constant cst n pos) fun e => .ok dv e := by
  cases dv with
  | non =>
    cases cst with
    | none => exact ⟨tC .non, fun X _ _ => pe_non, fun B e σ H Q rs h => (Post.same rs h).same .non⟩
    | _ => cases h
  | bl b =>
    cases cst with
    | bool b' =>
      have e1 : b = b' := by simpa [litB] using h
      subst e1
      exact ⟨tC (.bl b), fun X _ _ => pe_bl, fun B e σ H Q rs h => (Post.same rs h).same (.bl b)⟩
    | _ => cases h
  | int i =>
    cases cst with
    | int j =>
      have e1 : i = j := of_decide_eq_true h
      subst e1
      exact ⟨tC (.int i), fun X _ _ => pe_int, fun B e σ H Q rs h => (Post.same rs h).same (.int i)⟩
    | _ => cases h
  | str x =>
    cases cst with
    | str y =>
      have e1 : x = y := of_decide_eq_true h
      subst e1
      exact ⟨tC (.str x), fun X _ _ => pe_str, fun B e σ H Q rs h => (Post.same rs h).same (.str x)⟩
    | _ => cases h
  | _ => cases cst <;> cases h
theorem pe_slot (ok : Ok RX Γ C gv X W) {i : Nat} {x : Str} {pos : Pos} (h1 : Γ.N[i]? = some x) (h2 : visB Γ x = true) : PE X (.Name x pos) (tVar i) := by
  obtain ⟨v1, v2, v3⟩ := ok.vis h2
  exact pe_var (by rw [ok.hN]; exact h1) v1 v2 v3
theorem se_var {i : Nat} {x : Str} {pos : Pos} (h1 : Γ.N[i]? = some x) (h2 : visB Γ x = true) : SE RX Γ C gv K W (.Name x pos) fun e => getV e i := by
  refine ⟨tVar i, fun X ok _ => pe_slot ok h1 h2, fun B e σ H Q rs h => ?_⟩
  have h : PostE RX K W B e σ H (getV e i) Q := h
  unfold getV at h
  cases q : e[i]? with
  | none => rw [q] at h; exact h.elim
  | some o =>
    rw [q] at h
    cases o with
    | none => exact h.elim
    | some sl =>
      cases sl with
      | val d =>
        obtain ⟨v, w1, w2⟩ := rs.val i d q
        exact ⟨v, w1, h v H rs .refl w2⟩
      | own ds =>
        obtain ⟨rs1, st1, v, w1, w2⟩ := rs.freeze q
        exact ⟨v, w1, h v H rs1 st1 w2⟩
theorem se_gval (g0 : St0 Γ C gv K) {g : Nat} {x : Str} {pos : Pos} (h1 : Γ.gls[g]? = some x) (h2 : glB Γ x = true) : SE RX Γ C gv K W (.Name x pos) fun e => .ok (C.glob g) e := by
  refine ⟨tC (gv g), fun X ok hK => ?_, fun B e σ H Q rs h => (Post.same rs h).same (g0.glob g x h1 _ _)⟩
  obtain ⟨v1, v2, v3⟩ := ok.gl h2
  obtain ⟨u, m, r⟩ := ok.glob g x h1
  exact pe_glob v1 m r v2
theorem se_tup {es : List PySem.Expr} {n : Nat} {pos : Pos} {g : Env → R (List D)} (h : SL RX Γ C gv K W es g) : SE RX Γ C gv K W (.Tuple es n pos) fun e => (g e).bind fun ds e => if ds.length ≤ lim then .ok (.tup ds) e else .no := by
  obtain ⟨t, p, q⟩ := h
  refine ⟨tTup t, fun X ok hK => pe_tup (p X ok hK), fun B e σ H Q rs h => ?_⟩
  refine q B e σ H _ rs (Post.bind h fun ds e1 vs H1 _ rs1 _ rl h1 => ?_)
  split at h1
  · rename_i hl
    refine ⟨?_, fun p hp => (Post.same rs1 h1).newT rl hp⟩
    rw [← rl.len]
    exact Nat.le_trans hl lim_line
  · exact h1.elim
theorem se_lst {es : List PySem.Expr} {pos : Pos} {g : Env → R (List D)} (h : SL RX Γ C gv K W es g) : SE RX Γ C gv K W (.List es pos) fun e => (g e).bind fun ds e => if ds.length ≤ lim then .ok (.lst ds) e else .no := by
  obtain ⟨t, p, q⟩ := h
  refine ⟨tLst t, fun X ok hK => pe_lst (p X ok hK), fun B e σ H Q rs h => ?_⟩
  refine q B e σ H _ rs (Post.bind h fun ds e1 vs H1 _ rs1 _ rl h1 => ?_)
  split at h1
  · rename_i hl
    refine ⟨?_, fun p hp => (Post.same rs1 h1).newL (fun a => rs1.al a) rl hp⟩
    rw [← rl.len]
    exact Nat.le_trans hl lim_line
  · exact h1.elim
variable {x y z : PySem.Expr} {fa fb fc : Env → R D} {pos : Pos}
theorem se_bin {o : Bop} (ha : SE RX Γ C gv K W x fa) (hb : SE RX Γ C gv K W y fb) : SE RX Γ C gv K W (.BinOp x (opOf o) y pos) fun e => (fa e).bind fun a e => (fb e).bind fun b e => R.of (binop o a b) e := by
  obtain ⟨ta, pa, qa⟩ := ha
  obtain ⟨tb, pb, qb⟩ := hb
  refine ⟨tOp (rBin K o) ta tb, fun X ok hK => by subst hK; exact pe_op (bin_ok o) (pa X ok rfl) (pb X ok rfl), fun B e σ H Q rs h => ?_⟩
  refine qa B e σ H _ rs (Post.bind h fun d1 e1 v1 H1 _ rs1 _ r1 h1 => ?_)
  refine qb B e1 σ H1 _ rs1 (Post.bind h1 fun d2 e2 v2 H2 _ rs2 st2 r2 h2 => ?_)
  obtain ⟨d, hd, q⟩ := Post.vok rs2 h2
  exact ⟨Of B e2 σ, d1, d2, d, fun a => rs2.al a, rs1.keep st2 r1, r2, hd, q⟩
def negF (fa : Env → R D) : Env → R D := fun e => (fa e).bind fun a e => match a with
    | .int i => .ok (.int (-i)) e
    | _ => .no
theorem se_neg (ha : SE RX Γ C gv K W x fa) : SE RX Γ C gv K W (.UnaryOp .USub x pos) (negF fa) := by
  obtain ⟨ta, pa, qa⟩ := ha
  refine ⟨tUn (rU fun i => .int (-i)) ta, fun X ok hK => pe_un un_neg (pa X ok hK), fun B e σ H Q rs h => ?_⟩
  have h : PostE RX K W B e σ H (negF fa e) Q := h
  refine qa B e σ H _ rs (Post.bind h fun d1 e1 v1 H1 _ rs1 _ r1 h1 => ?_)
  cases d1 with
  | int i => exact ⟨i, r1.unint, (Post.same rs1 h1).same (.int _)⟩
  | _ => exact h1.elim
theorem no_marks {o : Cop} (h : isSet y = false) : behindInMarks (copOf o) y = false := by
  cases y <;> first | rfl | cases h
def cmpF (o : Cop) (fa fb : Env → R D) : Env → R D := fun e => (fa e).bind fun a e => (fb e).bind fun b e => R.of ((cmpop o a b).map D.bl) e
theorem se_cmp {o : Cop} (hs : isSet y = false) (ha : SE RX Γ C gv K W x fa) (hb : SE RX Γ C gv K W y fb) : SE RX Γ C gv K W (.Compare x [copOf o] [y] pos) (cmpF o fa fb) ∧ ST RX Γ C gv K W (.Compare x [copOf o] [y] pos) (cmpF o fa fb) := by
  obtain ⟨ta, pa, qa⟩ := ha
  obtain ⟨tb, pb, qb⟩ := hb
  constructor
  · refine ⟨tOp (rCmp K o) ta tb, fun X ok hK => by subst hK; exact pe_cmpR (cmp_ok ok.hu o) (pa X ok rfl) (pb X ok rfl) (no_marks hs), fun B e σ H Q rs h => ?_⟩
    have h : PostE RX K W B e σ H (cmpF o fa fb e) Q := h
    refine qa B e σ H _ rs (Post.bind h fun d1 e1 v1 H1 _ rs1 _ r1 h1 => ?_)
    refine qb B e1 σ H1 _ rs1 (Post.bind h1 fun d2 e2 v2 H2 _ rs2 st2 r2 h2 => ?_)
    obtain ⟨d, hd, q⟩ := Post.vok rs2 h2
    cases k : cmpop o d1 d2 with
    | none => rw [k] at hd; cases hd
    | some b =>
      rw [k] at hd
      cases hd
      exact ⟨Of B e2 σ, d1, d2, b, rs1.keep st2 r1, r2, k, q.same (.bl b)⟩
  · refine ⟨tTest (tOp (rCmp K o) ta tb), fun X ok hK => by subst hK; exact pt_cmpR (cmp_ok ok.hu o) (pa X ok rfl) (pb X ok rfl) (no_marks hs), fun B e σ H Q rs h => ?_⟩
    have h' : Post RX K W B e σ H eqB ((fa e).bind fun a e => (fb e).bind fun b e => R.of (cmpop o a b) e) Q := by
      have e0 : tst (cmpF o fa fb) e = (fa e).bind fun a e => (fb e).bind fun b e => R.of (cmpop o a b) e := by
        unfold tst cmpF
        cases fa e with
        | ok a e1 =>
          show R.bind (R.bind (fb e1) _) _ = R.bind (fb e1) _
          cases fb e1 with
          | ok b e2 =>
            show (R.of ((cmpop o a b).map D.bl) e2).bind _ = R.of (cmpop o a b) e2
            cases cmpop o a b <;> rfl
          | ex _ _ => rfl
          | no => rfl
        | ex _ _ => rfl
        | no => rfl
      rw [← e0]
      exact h
    refine qa B e σ H _ rs (Post.bind h' fun d1 e1 v1 H1 _ rs1 _ r1 h1 => ?_)
    refine qb B e1 σ H1 _ rs1 (Post.bind h1 fun d2 e2 v2 H2 _ rs2 st2 r2 h2 => ?_)
    cases k : cmpop o d1 d2 with
    | none => rw [k] at h2; exact h2.elim
    | some b =>
      rw [k] at h2
      exact ⟨Of B e2 σ, d1, d2, b, rs1.keep st2 r1, r2, k, b, rfl, h2 b H2 rs2 .refl rfl⟩
end
end
end Ev
set_option Elab.async false
set_option linter.all false
set_option maxRecDepth 100000
set_option maxHeartbeats 4000000
set_option autoImplicit false
/-! Ev6: further expressions. -/
namespace Ev
open PySem PySem.Spec PyProof.Rows L2
section
variable {RX : RXT} {Γ : Gam} {C : Ctx} {gv : Nat → V} {K : PySem.W.Frag} {W : WX} {x y z : PySem.Expr} {fa fb fc : Env → R D} {pos : Pos}
def cmp2F (o p : Cop) (fa fb fc : Env → R D) : Env → R D := fun e => (fa e).bind fun a e => (fb e).bind fun b e => match cmpop o a b with
    | some true => (fc e).bind fun c e => R.of ((cmpop p b c).map D.bl) e
    | some false => .ok (.bl false) e
    | none => .no
theorem no_last {o p : Cop} (h : isSet z = false) : lastMarks [copOf o, copOf p] [y, z] = false := no_marks (o := p) h
theorem se_cmp2 {o p : Cop} (hs : isSet z = false) (ha : SE RX Γ C gv K W x fa) (hb : SE RX Γ C gv K W y fb) (hc : SE RX Γ C gv K W z fc) : SE RX Γ C gv K W (.Compare x [copOf o, copOf p] [y, z] pos) (cmp2F o p fa fb fc) ∧
    ST RX Γ C gv K W (.Compare x [copOf o, copOf p] [y, z] pos) (cmp2F o p fa fb fc) := by
  obtain ⟨ta, pa, qa⟩ := ha
  obtain ⟨tb, pb, qb⟩ := hb
  obtain ⟨tc, pc, qc⟩ := hc
  constructor
  · refine ⟨tChain (rCmp K o) (rCmp K p) ta tb tc, fun X ok hK => by subst hK; exact pe_chain (cmp_ok ok.hu o) (cmp_ok ok.hu p) (pa X ok rfl) (pb X ok rfl) (pc X ok rfl) (no_last hs), fun B e σ H Q rs h => ?_⟩
    have h : PostE RX K W B e σ H (cmp2F o p fa fb fc e) Q := h
    refine qa B e σ H _ rs (Post.bind h fun d1 e1 v1 H1 _ rs1 _ r1 h1 => ?_)
    refine qb B e1 σ H1 _ rs1 (Post.bind h1 fun d2 e2 v2 H2 _ rs2 st2 r2 h2 => ?_)
    cases k : cmpop o d1 d2 with
    | none => rw [k] at h2; exact h2.elim
    | some b =>
      rw [k] at h2
      refine ⟨Of B e2 σ, d1, d2, b, rs1.keep st2 r1, r2, k, b, rfl, ?_⟩
      cases b with
      | false =>
        rw [if_neg Bool.false_ne_true]
        exact (Post.same rs2 h2).same (.bl false)
      | true =>
        rw [if_pos rfl]
        refine qc B e2 σ H2 _ rs2 (Post.bind h2 fun d3 e3 v3 H3 _ rs3 st3 r3 h3 => ?_)
        obtain ⟨d, hd, q⟩ := Post.vok rs3 h3
        cases k2 : cmpop p d2 d3 with
        | none => rw [k2] at hd; cases hd
        | some b =>
          rw [k2] at hd
          cases hd
          exact ⟨Of B e3 σ, d2, d3, b, rs2.keep st3 r2, r3, k2, q.same (.bl b)⟩
  · refine ⟨tTest (tChain (rCmp K o) (rCmp K p) ta tb tc), fun X ok hK => by subst hK; exact pt_chain (cmp_ok ok.hu o) (cmp_ok ok.hu p) (pa X ok rfl) (pb X ok rfl) (pc X ok rfl) (no_last hs), fun B e σ H Q rs h => ?_⟩
    have h' : Post RX K W B e σ H eqB ((fa e).bind fun a e => (fb e).bind fun b e => match cmpop o a b with
        | some true => (fc e).bind fun c e => R.of (cmpop p b c) e
        | some false => .ok false e
        | none => .no) Q := by
      have e0 : tst (cmp2F o p fa fb fc) e = (fa e).bind fun a e => (fb e).bind fun b e => match cmpop o a b with
        | some true => (fc e).bind fun c e => R.of (cmpop p b c) e
        | some false => .ok false e
        | none => .no := by
        unfold tst cmp2F
        cases fa e with
        | ok a e1 =>
          show R.bind (R.bind (fb e1) _) _ = R.bind (fb e1) _
          cases fb e1 with
          | ok b e2 =>
            show R.bind (match cmpop o a b with
              | some true => (fc e2).bind fun c e => R.of ((cmpop p b c).map D.bl) e
              | some false => .ok (.bl false) e2
              | none => .no) _ = (match cmpop o a b with
              | some true => (fc e2).bind fun c e => R.of (cmpop p b c) e
              | some false => .ok false e2
              | none => .no)
            cases cmpop o a b with
            | none => rfl
            | some k =>
              cases k with
              | false => rfl
              | true =>
                show R.bind (R.bind (fc e2) _) _ = R.bind (fc e2) _
                cases fc e2 with
                | ok c e3 =>
                  show R.bind (R.of ((cmpop p b c).map D.bl) e3) _ = R.of (cmpop p b c) e3
                  cases cmpop p b c <;> rfl
                | ex _ _ => rfl
                | no => rfl
          | ex _ _ => rfl
          | no => rfl
        | ex _ _ => rfl
        | no => rfl
      rw [← e0]
      exact h
    refine qa B e σ H _ rs (Post.bind h' fun d1 e1 v1 H1 _ rs1 _ r1 h1 => ?_)
    refine qb B e1 σ H1 _ rs1 (Post.bind h1 fun d2 e2 v2 H2 _ rs2 st2 r2 h2 => ?_)
    cases k : cmpop o d1 d2 with
    | none => rw [k] at h2; exact h2.elim
    | some b =>
      rw [k] at h2
      refine ⟨Of B e2 σ, d1, d2, b, rs1.keep st2 r1, r2, k, b, rfl, ?_⟩
      cases b with
      | false =>
        rw [if_neg Bool.false_ne_true]
        exact ⟨false, rfl, h2 false H2 rs2 .refl rfl⟩
      | true =>
        rw [if_pos rfl]
        refine qc B e2 σ H2 _ rs2 (Post.bind h2 fun d3 e3 v3 H3 _ rs3 st3 r3 h3 => ?_)
        cases k2 : cmpop p d2 d3 with
        | none => rw [k2] at h3; exact h3.elim
        | some b =>
          rw [k2] at h3
          exact ⟨Of B e3 σ, d2, d3, b, rs2.keep st3 r2, r3, k2, b, rfl, h3 b H3 rs3 .refl rfl⟩
/-! ### and, or, not, if -/
def andF (fa fb : Env → R D) : Env → R D := fun e => (fa e).bind fun x e => match x with
    | .bl true => fb e
    | .bl false => .ok (.bl false) e
    | _ => .no
def orF (fa fb : Env → R D) : Env → R D := fun e => (fa e).bind fun x e => match x with
    | .bl true => .ok (.bl true) e
    | .bl false => fb e
    | _ => .no
theorem se_and {rest : List PySem.Expr} (ha : SE RX Γ C gv K W x fa) (hb : SE RX Γ C gv K W (.BoolOp .And (y :: rest) pos) fb) : SE RX Γ C gv K W (.BoolOp .And (x :: y :: rest) pos) (andF fa fb) := by
  obtain ⟨ta, pa, qa⟩ := ha
  obtain ⟨tb, pb, qb⟩ := hb
  refine ⟨tAndV ta tb, fun X ok hK => pe_and (pa X ok hK) (pb X ok hK), fun B e σ H Q rs h => ?_⟩
  have h : PostE RX K W B e σ H (andF fa fb e) Q := h
  refine qa B e σ H _ rs (Post.bind h fun d1 e1 v1 H1 _ rs1 _ r1 h1 => ?_)
  cases d1 with
  | bl b =>
    refine ⟨b, r1.unbl, ?_⟩
    cases b with
    | true => rw [if_pos rfl]; exact qb B e1 σ H1 _ rs1 h1
    | false => rw [if_neg Bool.false_ne_true]; exact (Post.same rs1 h1).same (.bl false)
  | _ => exact h1.elim
theorem se_or {rest : List PySem.Expr} (ha : SE RX Γ C gv K W x fa) (hb : SE RX Γ C gv K W (.BoolOp .Or (y :: rest) pos) fb) : SE RX Γ C gv K W (.BoolOp .Or (x :: y :: rest) pos) (orF fa fb) := by
  obtain ⟨ta, pa, qa⟩ := ha
  obtain ⟨tb, pb, qb⟩ := hb
  refine ⟨tOrV ta tb, fun X ok hK => pe_or (pa X ok hK) (pb X ok hK), fun B e σ H Q rs h => ?_⟩
  have h : PostE RX K W B e σ H (orF fa fb e) Q := h
  refine qa B e σ H _ rs (Post.bind h fun d1 e1 v1 H1 _ rs1 _ r1 h1 => ?_)
  cases d1 with
  | bl b =>
    refine ⟨b, r1.unbl, ?_⟩
    cases b with
    | true => rw [if_pos rfl]; exact (Post.same rs1 h1).same (.bl true)
    | false => rw [if_neg Bool.false_ne_true]; exact qb B e1 σ H1 _ rs1 h1
  | _ => exact h1.elim
theorem se_one {o : BoolOp} (ha : SE RX Γ C gv K W x fa) : SE RX Γ C gv K W (.BoolOp o [x] pos) fa := by
  obtain ⟨ta, pa, qa⟩ := ha
  exact ⟨ta, fun X ok hK => pe_one (pa X ok hK), qa⟩
theorem SW.st {ex : PySem.Expr} {f : Env → R D} (h : SW RX Γ C gv K W ex f) : ST RX Γ C gv K W ex f := by
  obtain ⟨t, p, q⟩ := h
  exact ⟨t, fun X ok hK => (p X ok hK).pt, q⟩
theorem sw_boo {o : BoolOp} {es : List PySem.Expr} {f : Env → R D} (h : ST RX Γ C gv K W (.BoolOp o es pos) f) : SW RX Γ C gv K W (.BoolOp o es pos) f := by
  obtain ⟨t, p, q⟩ := h
  exact ⟨t, fun X ok hK => ⟨fun _ pins s σ H Q I hq => (p X ok hK).run pins s σ H Q I hq⟩, q⟩
theorem sw_and1 (ha : ST RX Γ C gv K W x fa) : SW RX Γ C gv K W (.BoolOp .And [x] pos) fa := by
  obtain ⟨t, p, q⟩ := ha
  exact ⟨t, fun X ok hK => pw_and1 (p X ok hK), q⟩
theorem sw_or1 (ha : ST RX Γ C gv K W x fa) : SW RX Γ C gv K W (.BoolOp .Or [x] pos) fa := by
  obtain ⟨t, p, q⟩ := ha
  exact ⟨t, fun X ok hK => pw_or1 (p X ok hK), q⟩
theorem sw_and {rest : List PySem.Expr} (ha : ST RX Γ C gv K W x fa) (hb : SW RX Γ C gv K W (.BoolOp .And (y :: rest) pos) fb) : SW RX Γ C gv K W (.BoolOp .And (x :: y :: rest) pos) (andF fa fb) := by
  obtain ⟨ta, pa, qa⟩ := ha
  obtain ⟨tb, pb, qb⟩ := hb
  refine ⟨tAnd ta tb, fun X ok hK => pw_and (pa X ok hK) (pb X ok hK), fun B e σ H Q rs h => ?_⟩
  refine qa B e σ H _ rs ?_
  unfold tst at h ⊢
  unfold andF at h
  cases q : fa e with
  | ok d e1 =>
    rw [q] at h
    cases d with
    | bl b =>
      intro k H1 rs1 st1 ek
      have ek : b = k := ek
      subst ek
      cases b with
      | true =>
        rw [if_pos rfl]
        exact qb B e1 σ H1 _ rs1 (Post.shift st1 h)
      | false =>
        rw [if_neg Bool.false_ne_true]
        exact h false H1 rs1 st1 rfl
    | _ => exact h.elim
  | ex ev e1 => rw [q] at h; exact h
  | no => rw [q] at h; exact h
theorem sw_or {rest : List PySem.Expr} (ha : ST RX Γ C gv K W x fa) (hb : SW RX Γ C gv K W (.BoolOp .Or (y :: rest) pos) fb) : SW RX Γ C gv K W (.BoolOp .Or (x :: y :: rest) pos) (orF fa fb) := by
  obtain ⟨ta, pa, qa⟩ := ha
  obtain ⟨tb, pb, qb⟩ := hb
  refine ⟨tOr ta tb, fun X ok hK => pw_or (pa X ok hK) (pb X ok hK), fun B e σ H Q rs h => ?_⟩
  refine qa B e σ H _ rs ?_
  unfold tst at h ⊢
  unfold orF at h
  cases q : fa e with
  | ok d e1 =>
    rw [q] at h
    cases d with
    | bl b =>
      intro k H1 rs1 st1 ek
      have ek : b = k := ek
      subst ek
      cases b with
      | true =>
        rw [if_pos rfl]
        exact h true H1 rs1 st1 rfl
      | false =>
        rw [if_neg Bool.false_ne_true]
        exact qb B e1 σ H1 _ rs1 (Post.shift st1 h)
    | _ => exact h.elim
  | ex ev e1 => rw [q] at h; exact h
  | no => rw [q] at h; exact h
def notF (fa : Env → R D) : Env → R D := fun e => (fa e).bind fun x e => R.way x (.ok (.bl false) e) (.ok (.bl true) e)
theorem se_not (ha : SE RX Γ C gv K W x fa) : SE RX Γ C gv K W (.UnaryOp .Not x pos) (notF fa) := by
  obtain ⟨ta, pa, qa⟩ := ha
  refine ⟨tNotT K ta, fun X ok hK => by subst hK; exact pe_notT (pa X ok rfl), fun B e σ H Q rs h => ?_⟩
  have h : PostE RX K W B e σ H (notF fa e) Q := h
  refine qa B e σ H _ rs (Post.bind h fun d1 e1 v1 H1 _ rs1 _ r1 h1 => ?_)
  unfold R.way at h1
  cases k : d1.tr with
  | none => rw [k] at h1; exact h1.elim
  | some b =>
    rw [k] at h1
    refine ⟨b, truth_val r1 k, ?_⟩
    cases b with
    | true => exact (Post.same rs1 h1).same (.bl false)
    | false => exact (Post.same rs1 h1).same (.bl true)
theorem st_not (ha : ST RX Γ C gv K W x fa) : ST RX Γ C gv K W (.UnaryOp .Not x pos) (notF fa) := by
  obtain ⟨ta, pa, qa⟩ := ha
  refine ⟨tNot ta, fun X ok hK => pt_not (pa X ok hK), fun B e σ H Q rs h => ?_⟩
  refine qa B e σ H _ rs ?_
  unfold tst at h ⊢
  unfold notF at h
  cases q : fa e with
  | ok d e1 =>
    rw [q] at h
    have h : Post RX K W B e σ H eqB ((R.way d (R.ok (D.bl false) e1) (R.ok (D.bl true) e1)).bind fun (d : D) e => R.of d.tr e) Q := h
    unfold R.way at h
    show Post RX K W B e σ H eqB (R.of d.tr e1) fun c H1 => Q (!c) H1
    cases k : d.tr with
    | none => rw [k] at h; exact h.elim
    | some b =>
      rw [k] at h
      intro k H1 rs1 st1 ek
      have ek : b = k := ek
      subst ek
      cases b with
      | true => exact h false H1 rs1 st1 rfl
      | false => exact h true H1 rs1 st1 rfl
  | ex ev e1 => rw [q] at h; exact h
  | no => rw [q] at h; exact h
def iteF (fc fa fb : Env → R D) : Env → R D := fun e => (fc e).bind fun x e => R.way x (fa e) (fb e)
/-- a test, then one of two ways -/
theorem Post.way {a b : Type} {Rel : (Addr → Prop) → Hp → a → b → Prop} {B : Addr → Prop} {e : Env} {σ : L2.St} {H : Hp} {ga gb : Env → R a} {Q : b → Hp → Prop} {Q' : Bool → Hp → Prop} (h : Post RX K W B e σ H Rel ((fc e).bind fun x e => R.way x (ga e) (gb e)) Q)
    (k : ∀ c e1 H1, RSt K B H1 e1 σ → Stp H e σ H1 e1 σ → Post RX K W B e1 σ H1 Rel (if c = true then ga e1 else gb e1) Q → Q' c H1) : Post RX K W B e σ H eqB (tst fc e) Q' := by
  unfold tst
  cases q : fc e with
  | ok d e1 =>
    rw [q] at h
    have h : Post RX K W B e σ H Rel (R.way d (ga e1) (gb e1)) Q := h
    unfold R.way at h
    show Post RX K W B e σ H eqB (R.of d.tr e1) Q'
    cases z : d.tr with
    | none => rw [z] at h; exact h.elim
    | some b =>
      rw [z] at h
      intro c H1 rs1 st1 ek
      have ek : b = c := ek
      subst ek
      refine k b e1 H1 rs1 st1 ?_
      cases b with
      | true => rw [if_pos rfl]; exact Post.shift st1 h
      | false => rw [if_neg Bool.false_ne_true]; exact Post.shift st1 h
  | ex ev e1 => rw [q] at h; exact h
  | no => rw [q] at h; exact h
theorem se_ite (hc : ST RX Γ C gv K W x fc) (ha : SE RX Γ C gv K W y fa) (hb : SE RX Γ C gv K W z fb) : SE RX Γ C gv K W (.IfExp x y z pos) (iteF fc fa fb) := by
  obtain ⟨tc, pc, qc⟩ := hc
  obtain ⟨ta, pa, qa⟩ := ha
  obtain ⟨tb, pb, qb⟩ := hb
  refine ⟨tIf tc ta tb, fun X ok hK => pe_ifExp (pc X ok hK) (pa X ok hK) (pb X ok hK), fun B e σ H Q rs h => ?_⟩
  refine qc B e σ H _ rs (Post.way (ga := fa) (gb := fb) h fun c e1 H1 rs1 st1 h1 => ?_)
  cases c with
  | true => rw [if_pos rfl] at h1 ⊢; exact qa B e1 σ H1 _ rs1 h1
  | false => rw [if_neg Bool.false_ne_true] at h1 ⊢; exact qb B e1 σ H1 _ rs1 h1
/-! ### subscripts, slices -/
theorem plain_ix (h : isSl y = false) : PlainIx y := by
  intro o i
  cases y <;> first | rfl | cases h
theorem se_ix (hs : isSl y = false) (ha : SE RX Γ C gv K W x fa) (hb : SE RX Γ C gv K W y fb) : SE RX Γ C gv K W (.Subscript x y pos) fun e => (fa e).bind fun a e => (fb e).bind fun b e => R.of (ixop a b) e := by
  obtain ⟨ta, pa, qa⟩ := ha
  obtain ⟨tb, pb, qb⟩ := hb
  refine ⟨tOp (rIxs K) ta tb, fun X ok hK => by subst hK; exact pe_ix ixs_ok (pa X ok rfl) (pb X ok rfl) (plain_ix hs), fun B e σ H Q rs h => ?_⟩
  refine qa B e σ H _ rs (Post.bind h fun d1 e1 v1 H1 _ rs1 _ r1 h1 => ?_)
  refine qb B e1 σ H1 _ rs1 (Post.bind h1 fun d2 e2 v2 H2 _ rs2 st2 r2 h2 => ?_)
  obtain ⟨d, hd, q⟩ := Post.vok rs2 h2
  exact ix_val (rs1.keep st2 r1) r2 hd q
theorem getO_own {e : Env} {i : Nat} {ds : List D} (h : getO e i = some ds) : e[i]? = some (some (Sl.own ds)) := by
  unfold getO at h
  split at h
  · rename_i q
    cases h
    exact q
  · cases h
theorem se_oix {i : Nat} {n : Str} {p : Pos} (h1 : Γ.N[i]? = some n) (h2 : visB Γ n = true) (hs : isSl y = false) (hb : SE RX Γ C gv K W y fb) : SE RX Γ C gv K W (.Subscript (.Name n p) y pos) fun e => match ioOk (some i) e with
    | true => (fb e).bind fun b e => match getO e i with
      | some ds => R.of (ixop (.lst ds) b) e
      | none => .no
    | false => .no := by
  obtain ⟨tb, pb, qb⟩ := hb
  refine ⟨tOp (rIxs K) (tVar i) tb, fun X ok hK => by subst hK; exact pe_ix ixs_ok (pe_slot ok h1 h2) (pb X ok rfl) (plain_ix hs), fun B e σ H Q rs h => ?_⟩
  cases z : ioOk (some i) e with
  | false =>
    simp only [z] at h
    exact h.elim
  | true =>
    simp only [z] at h
    have z : (getO e i).isSome = true := z
    cases k0 : getO e i with
    | none => rw [k0] at z; cases z
    | some ds0 =>
      obtain ⟨a, vs0, w0, _⟩ := rs.own i ds0 (getO_own k0)
      refine ⟨.ref a, w0, ?_⟩
      refine qb B e σ H _ rs (Post.bind h fun d2 e2 v2 H2 _ rs2 st2 r2 h2 => ?_)
      cases k : getO e2 i with
      | none => rw [k] at h2; exact h2.elim
      | some ds =>
        rw [k] at h2
        obtain ⟨d, hd, q⟩ := Post.vok rs2 h2
        obtain ⟨a', vs, w1, w2, w3, w4⟩ := rs2.own i ds (getO_own k)
        rw [w0] at w1
        cases w1
        cases d2 with
        | int j =>
          obtain ⟨v, e, r⟩ := at_get w4 (show at_ ds j = some d from hd)
          exact .inl ⟨a, vs, j, v, rfl, r2.unint, .inl (.inl w3), e, q.same r⟩
        | _ => cases hd
theorem sp_none : SP1 RX Γ C gv K W none fun e => (R.ok D.non e).bind fun l e => R.of (partR true l) e := ⟨tNoPart, fun X ok hK => po_none, fun B e σ H Q rs h => h none H rs .refl rfl⟩
theorem sp_some (ha : SE RX Γ C gv K W x fa) : SP1 RX Γ C gv K W (some x) fun e => (fa e).bind fun d e => R.of (partR false d) e := by
  obtain ⟨ta, pa, qa⟩ := ha
  refine ⟨tPart ta, fun X ok hK => po_some (pa X ok hK), fun B e σ H Q rs h => ?_⟩
  refine qa B e σ H _ rs (Post.bind h fun d1 e1 v1 H1 _ rs1 _ r1 h1 => ?_)
  cases d1 with
  | int i => exact ⟨i, r1.unint, h1 (some i) H1 rs1 .refl rfl⟩
  | _ => exact h1.elim
theorem se_sl {lo hi : Option PySem.Expr} {p2 : Pos} {fl fh : Env → R (Option Int)} (ha : SE RX Γ C gv K W x fa) (hl : SP1 RX Γ C gv K W lo fl) (hh : SP1 RX Γ C gv K W hi fh) : SE RX Γ C gv K W (.Subscript x (.Slice lo hi none p2) pos) fun e => (fa e).bind fun x e => (fl e).bind fun l e => (fh e).bind fun h e => R.of (slop x l h) e := by
  obtain ⟨ta, pa, qa⟩ := ha
  obtain ⟨tl, pl, ql⟩ := hl
  obtain ⟨th, ph, qh⟩ := hh
  refine ⟨tSl (rSls K) ta tl th, fun X ok hK => by subst hK; exact pe_slice sls_ok (pa X ok rfl) (pl X ok rfl) (ph X ok rfl), fun B e σ H Q rs h => ?_⟩
  refine qa B e σ H _ rs (Post.bind h fun d1 e1 v1 H1 _ rs1 _ r1 h1 => ?_)
  refine ql B e1 σ H1 _ rs1 (Post.bind h1 fun d2 e2 o2 H2 _ rs2 st2 r2 h2 => ?_)
  refine qh B e2 σ H2 _ rs2 (Post.bind h2 fun d3 e3 o3 H3 _ rs3 st3 r3 h3 => ?_)
  subst r2 r3
  obtain ⟨d, hd, q⟩ := Post.vok rs3 h3
  exact sl_val (fun a => rs3.al a) (rs2.keep st3 (rs1.keep st2 r1)) hd q
/-! ### rows, calls -/
variable {es : List PySem.Expr} {fs : Env → R (List D)}
theorem sl_nil : SL RX Γ C gv K W [] fun e => .ok [] e := ⟨tNil, fun X ok hK => pa_nil, fun B e σ H Q rs h => h [] H rs .refl .nil⟩
theorem sl_cons (hs : isStar x = false) (ha : SE RX Γ C gv K W x fa) (hr : SL RX Γ C gv K W es fs) : SL RX Γ C gv K W (x :: es) fun e => (fa e).bind fun x e => (fs e).bind fun xs e => .ok (x :: xs) e := by
  obtain ⟨ta, pa, qa⟩ := ha
  obtain ⟨tr, pr, qr⟩ := hr
  refine ⟨tCons ta tr, fun X ok hK => pa_cons (pa X ok hK) (pr X ok hK) (star_cons hs), fun B e σ H Q rs h => ?_⟩
  refine qa B e σ H _ rs (Post.bind h fun d1 e1 v1 H1 _ rs1 _ r1 h1 => ?_)
  refine qr B e1 σ H1 _ rs1 (Post.bind h1 fun ds e2 vs H2 _ rs2 st2 r2 h2 => ?_)
  exact h2 (v1 :: vs) H2 rs2 .refl (.cons (rs1.keep st2 r1) r2)
end
section
variable {K : PySem.W.Frag} {B : Addr → Prop} {e : Env} {σ : L2.St} {H H' : Hp}
theorem vals_get {ds : List D} {i : Nat} : (ds.map Sl.val |>.map some)[i]? = (ds[i]?).map fun d => some (Sl.val d) := by
  rw [List.getElem?_map, List.getElem?_map]
  cases ds[i]? <;> rfl
theorem no_own {ds : List D} {vs : List V} {a : Addr} : ¬ OwnAt ((ds.map Sl.val).map some) (vs.map some) a := fun ⟨i, es, h, _⟩ => by
  rw [vals_get] at h
  cases q : ds[i]? with
  | none => rw [q] at h; cases h
  | some d => rw [q] at h; cases h
/-- arguments that are plain values -/
theorem RSt.args (rs : RSt K B H e σ) {ds : List D} {vs : List V} (r : Rps K (Of B e σ) H ds vs) : RSt K (Of B e σ) H ((ds.map Sl.val).map some) (vs.map some) where
  len := by simp [r.len]
  val := fun i d h => by
    rw [vals_get] at h
    cases q : ds[i]? with
    | none => rw [q] at h; cases h
    | some d' =>
      rw [q] at h
      cases h
      obtain ⟨v, w1, w2⟩ := r.get q
      exact ⟨v, by rw [List.getElem?_map, w1]; rfl, Rp.mono (S := fun _ => False) ⟨fun _ _ q _ => q, fun _ z => z.elim⟩ (fun _ z => z.elim) (fun a z => .inl (z.elim id fun w => absurd w no_own)) w2⟩
  own := fun i es h => by
    rw [vals_get] at h
    cases q : ds[i]? with
    | none => rw [q] at h; cases h
    | some d => rw [q] at h; cases h
  inj := fun i j es fs a h => by
    rw [vals_get] at h
    cases q : ds[i]? with
    | none => rw [q] at h; cases h
    | some d => rw [q] at h; cases h
  bnd := fun a h => rs.ofs h
theorem ret_vals {ds : List D} {cs : List D} : retArgs (ds.map Sl.val) cs = ds.map Sl.val := by
  cases ds <;> rfl
/-- behind a call with plain arguments -/
theorem RSt.called (rs : RSt K B H e σ) {ds : List D} {vs : List V} (st : Stp H ((ds.map Sl.val).map some) (vs.map some) H' ((ds.map Sl.val).map some) (vs.map some)) : RSt K B H' e σ ∧ Stp H e σ H' e σ := by
  have fr : Fr (fun _ => False) H H' := ⟨fun a o h _ => st.fr a o h no_own, fun _ z => z.elim⟩
  have mono : ∀ {d' : D} {v' : V}, Rp K (Of B e σ) H d' v' → Rp K (Of B e σ) H' d' v' := fun {d' v'} q => Rp.mono fr (fun _ z => z.elim) (fun b q => .inl q) q
  have monos : ∀ {es' : List D} {us' : List V}, Rps K (Of B e σ) H es' us' → Rps K (Of B e σ) H' es' us' := fun {es' us'} q => Rps.mono fr (fun _ z => z.elim) (fun b q => .inl q) q
  refine ⟨⟨rs.len, fun i d h => ?_, fun i es h => ?_, rs.inj, fun a h => ?_⟩, ⟨fun a o h _ => fr.fr a o h fun z => z, st.al, fun a h => .inl h⟩⟩
  · obtain ⟨v, w1, w2⟩ := rs.val i d h
    exact ⟨v, w1, mono w2⟩
  · obtain ⟨a, us, w1, w2, w3, w4⟩ := rs.own i es h
    exact ⟨a, us, w1, w2, fr.fr _ _ w3 fun z => z, monos w4⟩
  · obtain ⟨us, w⟩ := rs.bnd a h
    exact ⟨us, fr.fr _ _ w fun z => z⟩
/-- arguments, the first of them an own list handed over -/
def But (B : Addr → Prop) (a : Addr) : Addr → Prop := fun b => B b ∧ b ≠ a
theorem io_own {cs : List D} {ds : List D} {a : Addr} {vs : List V} {b : Addr} : OwnAt ((Sl.own cs :: ds.map Sl.val).map some) ((V.ref a :: vs).map some) b ↔ b = a := by
  constructor
  · rintro ⟨i, es, h1, h2⟩
    cases i with
    | zero => simp at h2; exact h2.symm
    | succ i =>
      have h1 : (ds.map Sl.val |>.map some)[i]? = some (some (Sl.own es)) := by simpa using h1
      rw [vals_get] at h1
      cases q : ds[i]? with
      | none => rw [q] at h1; cases h1
      | some d => rw [q] at h1; cases h1
  · rintro rfl
    exact ⟨0, cs, rfl, rfl⟩
theorem RSt.argsIo (rs : RSt K B H e σ) {i : Nat} {cs : List D} {a : Addr} (ho : e[i]? = some (some (Sl.own cs))) (ha : σ[i]? = some (some (V.ref a))) {ds : List D} {vs : List V} (r : Rps K (Of B e σ) H ds vs) :
    RSt K (But (Of B e σ) a) H ((Sl.own cs :: ds.map Sl.val).map some) ((V.ref a :: vs).map some) := by
  have back : ∀ b, Of (But (Of B e σ) a) ((Sl.own cs :: ds.map Sl.val).map some) ((V.ref a :: vs).map some) b → Of B e σ b := fun b h => by
    rcases h with h | h
    · exact h.1
    · rw [io_own.mp h]
      exact .inr ⟨i, cs, ho, ha⟩
  have mono : ∀ {d' : D} {v' : V}, Rp K (Of B e σ) H d' v' → Rp K (Of (But (Of B e σ) a) ((Sl.own cs :: ds.map Sl.val).map some) ((V.ref a :: vs).map some)) H d' v' := fun {d' v'} q =>
    Rp.mono (S := fun _ => False) ⟨fun _ _ q _ => q, fun _ z => z.elim⟩ (fun _ z => z.elim) (fun b q => .inl (back b q)) q
  have monos : ∀ {es' : List D} {us' : List V}, Rps K (Of B e σ) H es' us' → Rps K (Of (But (Of B e σ) a) ((Sl.own cs :: ds.map Sl.val).map some) ((V.ref a :: vs).map some)) H es' us' := fun {es' us'} q =>
    Rps.mono (S := fun _ => False) ⟨fun _ _ q _ => q, fun _ z => z.elim⟩ (fun _ z => z.elim) (fun b q => .inl (back b q)) q
  obtain ⟨a', us, w1, w2, w3, w4⟩ := rs.own i cs ho
  rw [ha] at w1
  cases w1
  refine ⟨by simp [r.len], fun j d h => ?_, fun j es h => ?_, fun j k es fs b h1 h2 h3 h4 => ?_, fun b h => rs.ofs h.1⟩
  · cases j with
    | zero => simp at h
    | succ j =>
      have h1 : (ds.map Sl.val |>.map some)[j]? = some (some (Sl.val d)) := by simpa using h
      rw [vals_get] at h1
      cases q : ds[j]? with
      | none => rw [q] at h1; cases h1
      | some d' =>
        rw [q] at h1
        cases h1
        obtain ⟨v, z1, z2⟩ := r.get q
        refine ⟨v, ?_, mono z2⟩
        simp [z1]
  · cases j with
    | zero =>
      have e1 : cs = es := by simpa using h
      subst e1
      exact ⟨a, us, rfl, fun z => z.2 rfl, w3, monos w4⟩
    | succ j =>
      have h1 : (ds.map Sl.val |>.map some)[j]? = some (some (Sl.own es)) := by simpa using h
      rw [vals_get] at h1
      cases q : ds[j]? with
      | none => rw [q] at h1; cases h1
      | some d => rw [q] at h1; cases h1
  · have z : ∀ {j : Nat} {es : List D}, ((Sl.own cs :: ds.map Sl.val).map some)[j]? = some (some (Sl.own es)) → j = 0 := fun {j es} h => by
      cases j with
      | zero => rfl
      | succ j =>
        have h1 : (ds.map Sl.val |>.map some)[j]? = some (some (Sl.own es)) := by simpa using h
        rw [vals_get] at h1
        cases q : ds[j]? with
        | none => rw [q] at h1; cases h1
        | some d => rw [q] at h1; cases h1
    rw [z h1, z h2]
/-- behind a call that was handed an own list -/
theorem RSt.calledIo (rs : RSt K B H e σ) {i : Nat} {cs cs' : List D} {a : Addr} (ho : e[i]? = some (some (Sl.own cs))) (ha : σ[i]? = some (some (V.ref a))) {ds : List D} {vs : List V}
    (r' : RSt K (But (Of B e σ) a) H' ((Sl.own cs' :: ds.map Sl.val).map some) ((V.ref a :: vs).map some))
    (st : Stp H ((Sl.own cs :: ds.map Sl.val).map some) ((V.ref a :: vs).map some) H' ((Sl.own cs' :: ds.map Sl.val).map some) ((V.ref a :: vs).map some)) :
    RSt K B H' (e.set i (some (Sl.own cs'))) σ ∧ Stp H e σ H' (e.set i (some (Sl.own cs'))) σ ∧ ∀ {d : D} {v : V}, Rp K (Of (But (Of B e σ) a) ((Sl.own cs' :: ds.map Sl.val).map some) ((V.ref a :: vs).map some)) H' d v → Rp K (Of B (e.set i (some (Sl.own cs'))) σ) H' d v := by
  have hi : i < e.length := (List.getElem?_eq_some_iff.mp ho).1
  have own' : ∀ b, OwnAt (e.set i (some (Sl.own cs'))) σ b → OwnAt e σ b := fun b ⟨j, fs, q1, q2⟩ => by
    rcases own_set_own q1 with ⟨rfl, rfl, _⟩ | ⟨_, q⟩
    · exact ⟨j, cs, ho, q2⟩
    · exact ⟨j, fs, q, q2⟩
  have fr : Fr (fun b => b = a) H H' := ⟨fun b o h n => st.fr b o h fun z => n (io_own.mp z), fun b z => by
    rw [z]
    exact rs.ls ⟨i, cs, ho, ha⟩⟩
  have oa : ∀ b, b = a → Of B e σ b := fun b z => .inr ⟨i, cs, ho, by rw [z]; exact ha⟩
  have mono : ∀ {d' : D} {v' : V}, Rp K (Of B e σ) H d' v' → Rp K (Of B (e.set i (some (Sl.own cs'))) σ) H' d' v' := fun {d' v'} q =>
    Rp.mono fr oa (fun b q => .inl (q.elim .inl fun z => .inr (own' b z))) q
  have monos : ∀ {es' : List D} {us' : List V}, Rps K (Of B e σ) H es' us' → Rps K (Of B (e.set i (some (Sl.own cs'))) σ) H' es' us' := fun {es' us'} q =>
    Rps.mono fr oa (fun b q => .inl (q.elim .inl fun z => .inr (own' b z))) q
  have into : ∀ b, Of B (e.set i (some (Sl.own cs'))) σ b → Of (But (Of B e σ) a) ((Sl.own cs' :: ds.map Sl.val).map some) ((V.ref a :: vs).map some) b := fun b h => by
    by_cases hb : b = a
    · exact .inr (io_own.mpr hb)
    · exact .inl ⟨h.elim .inl fun z => .inr (own' b z), hb⟩
  have res : ∀ {d : D} {v : V}, Rp K (Of (But (Of B e σ) a) ((Sl.own cs' :: ds.map Sl.val).map some) ((V.ref a :: vs).map some)) H' d v → Rp K (Of B (e.set i (some (Sl.own cs'))) σ) H' d v := fun {d v} q =>
    Rp.mono (S := fun _ => False) ⟨fun _ _ q _ => q, fun _ z => z.elim⟩ (fun _ z => z.elim) (fun b q => .inl (into b q)) q
  have ress : ∀ {d : List D} {v : List V}, Rps K (Of (But (Of B e σ) a) ((Sl.own cs' :: ds.map Sl.val).map some) ((V.ref a :: vs).map some)) H' d v → Rps K (Of B (e.set i (some (Sl.own cs'))) σ) H' d v := fun {d v} q =>
    Rps.mono (S := fun _ => False) ⟨fun _ _ q _ => q, fun _ z => z.elim⟩ (fun _ z => z.elim) (fun b q => .inl (into b q)) q
  obtain ⟨a0, us0, y1, y2, y3, y4⟩ := rs.own i cs ho
  rw [ha] at y1
  cases y1
  obtain ⟨a1, us, x1, x2, x3, x4⟩ := r'.own 0 cs' rfl
  have x1 : V.ref a = V.ref a1 := by simpa using x1
  cases x1
  refine ⟨⟨by rw [List.length_set]; exact rs.len, fun j d q => ?_, fun j fs q => ?_, fun j k fs gs b q1 q2 q3 q4 => ?_, fun b q => ?_⟩, ⟨fun b o h n => ?_, st.al, fun b h => .inl (own' b h)⟩, res⟩
  · by_cases hj : i = j
    · subst hj
      rw [List.getElem?_set_self hi] at q
      cases q
    · rw [List.getElem?_set_ne hj] at q
      obtain ⟨v, w1, w2⟩ := rs.val j d q
      exact ⟨v, w1, mono w2⟩
  · rcases own_set_own q with ⟨rfl, rfl, _⟩ | ⟨hj, q'⟩
    · exact ⟨a, us, ha, y2, x3, ress x4⟩
    · obtain ⟨b, ws, w1, w2, w3, w4⟩ := rs.own j fs q'
      have hb : b ≠ a := fun z => hj (rs.inj j i fs cs a q' ho (by rw [w1, z]) ha)
      exact ⟨b, ws, w1, w2, fr.fr _ _ w3 hb, monos w4⟩
  · have back : ∀ {j : Nat} {fs : List D}, (e.set i (some (Sl.own cs')))[j]? = some (some (Sl.own fs)) → ∃ gs, e[j]? = some (some (Sl.own gs)) := fun {j fs} q => by
      rcases own_set_own q with ⟨rfl, rfl, _⟩ | ⟨_, q⟩
      · exact ⟨_, ho⟩
      · exact ⟨_, q⟩
    obtain ⟨_, z1⟩ := back q1
    obtain ⟨_, z2⟩ := back q2
    exact rs.inj j k _ _ b z1 z2 q3 q4
  · by_cases hb : b = a
    · exact ⟨us, by rw [hb]; exact x3⟩
    · obtain ⟨ws, w⟩ := rs.bnd b q
      exact ⟨ws, fr.fr _ _ w hb⟩
  · refine fr.fr b o h fun z => n ?_
    rw [z]
    exact ⟨i, cs, ho, ha⟩
end
end Ev
set_option Elab.async false
set_option linter.all false
set_option maxRecDepth 100000
set_option maxHeartbeats 4000000
set_option autoImplicit false
/-! Ev7: calls, built-ins, what is walked, targets. -/
namespace Ev
open PySem PySem.Spec PyProof.Rows L2
section
variable {RX : RXT} {Γ : Gam} {C : Ctx} {gv : Nat → V} {K : PySem.W.Frag} {W : WX} {x y z : PySem.Expr} {fa fb fc : Env → R D} {pos : Pos} {es : List PySem.Expr} {fs : Env → R (List D)}
theorem noStar_cons (h : noStar (y :: es) = true) : isStar y = false ∧ noStar es = true := by
  unfold noStar at h ⊢
  rw [List.all_cons] at h
  obtain ⟨h1, h2⟩ := and2 h
  exact ⟨by simpa using h1, h2⟩
def callF (C : Ctx) (f : Nat) (io : Option Nat) (fs : Env → R (List D)) : Env → R D := fun e => match ioOk io e with
    | true => (fs e).bind fun ds e => match argsOf io ds e with
      | some xs => afterCall io (C.call f xs) e
      | none => .no
    | false => .no
theorem se_call (g0 : St0 Γ C gv K) {f : Nat} {fi : FnI} {p : Pos} (hf : Γ.fns[f]? = some fi) (hg : glB Γ fi.name = true) (hst : noStar (y :: es) = true) (hs : SL RX Γ C gv K W (y :: es) fs) :
    SE RX Γ C gv K W (.Call (.Name fi.name p) (y :: es) [] pos) (callF C f none fs) := by
  obtain ⟨ts, ps, qs⟩ := hs
  refine ⟨tCallS (spF RX K C.call f fi.ps.length) (WE W) ts, fun X ok hK => ?_, fun B e σ H Q rs h => ?_⟩
  · subst hK
    obtain ⟨ad, fd, k, hm, hk, hb, hr, F⟩ := ok.call f fi hf
    obtain ⟨g1, g2, g3⟩ := ok.gl hg
    obtain ⟨n1, n2⟩ := noStar_cons hst
    exact pe_callS F hr g1 hm hk hb (fun σ => passAt ok.tk σ) (ps X ok rfl) g2 (star_cons n1) (star_any n2)
  · have h : PostE RX K W B e σ H ((fs e).bind fun ds e => afterCall none (C.call f (ds.map Sl.val)) e) Q := h
    refine qs B e σ H _ rs (Post.bind h fun ds e1 vs H1 _ rs1 _ r1 h1 => ?_)
    have hl : vs.length = fi.ps.length := by
      by_cases q : (ds.map Sl.val).length = fi.ps.length
      · rw [← q, List.length_map, r1.len]
      · rw [g0.ar f fi _ hf q] at h1
        exact h1.elim
    refine ⟨hl, Of B e1 σ, ds.map Sl.val, rs1.args r1, ?_⟩
    cases q : C.call f (ds.map Sl.val) with
    | ok d cs =>
      rw [q] at h1
      intro v H' r' st' rp
      rw [ret_vals] at r' st' rp
      obtain ⟨rs2, st2⟩ := rs1.called st'
      exact h1 v H' rs2 st2 (Rp.mono (S := fun _ => False) ⟨fun _ _ q _ => q, fun _ z => z.elim⟩ (fun _ z => z.elim) (fun b q => .inl (.inl q)) rp)
    | ex ev =>
      rw [q] at h1
      intro cl dd H' r' st' rx
      obtain ⟨rs2, st2⟩ := rs1.called st'
      exact h1 cl dd H' rs2 st2 rx
    | no =>
      rw [q] at h1
      exact h1.elim
theorem se_callIo (g0 : St0 Γ C gv K) {f i : Nat} {fi : FnI} {p q : Pos} {n : Str} (hf : Γ.fns[f]? = some fi) (hg : glB Γ fi.name = true) (hn : Γ.N[i]? = some n) (hv : visB Γ n = true) (hst : noStar es = true) (hs : SL RX Γ C gv K W es fs) :
    SE RX Γ C gv K W (.Call (.Name fi.name p) (.Name n q :: es) [] pos) (callF C f (some i) fs) := by
  obtain ⟨ts, ps, qs⟩ := hs
  refine ⟨tCallS (spF RX K C.call f fi.ps.length) (WE W) (tCons (tVar i) ts), fun X ok hK => ?_, fun B e σ H Q rs h => ?_⟩
  · subst hK
    obtain ⟨ad, fd, k, hm, hk, hb, hr, F⟩ := ok.call f fi hf
    obtain ⟨g1, g2, g3⟩ := ok.gl hg
    exact pe_callS F hr g1 hm hk hb (fun σ => passAt ok.tk σ) (pa_cons (pe_slot ok hn hv) (ps X ok rfl) (star_cons rfl)) g2 (star_cons rfl) (star_any hst)
  · have h : PostE RX K W B e σ H (callF C f (some i) fs e) Q := h
    unfold callF at h
    cases z : ioOk (some i) e with
    | false =>
      rw [z] at h
      exact h.elim
    | true =>
      rw [z] at h
      have z : (getO e i).isSome = true := z
      cases k0 : getO e i with
      | none => rw [k0] at z; cases z
      | some ds0 =>
        obtain ⟨a, vs0, w0, _⟩ := rs.own i ds0 (getO_own k0)
        refine ⟨.ref a, w0, ?_⟩
        refine qs B e σ H _ rs (Post.bind h fun ds e1 vs H1 _ rs1 _ r1 h1 => ?_)
        have h1 : Post RX K W B e1 σ H1 (Rp K) (match (getO e1 i).map fun cs => Sl.own cs :: ds.map Sl.val with
          | some xs => afterCall (some i) (C.call f xs) e1
          | none => .no) Q := h1
        cases k : getO e1 i with
        | none => rw [k] at h1; exact h1.elim
        | some cs =>
          rw [k] at h1
          have h1 : Post RX K W B e1 σ H1 (Rp K) (afterCall (some i) (C.call f (Sl.own cs :: ds.map Sl.val)) e1) Q := h1
          have ho := getO_own k
          obtain ⟨a', us, w1, w2, w3, w4⟩ := rs1.own i cs ho
          rw [w0] at w1
          cases w1
          show spF RX K C.call f fi.ps.length (V.ref a :: vs) H1 Q (WE W σ)
          have hl : (V.ref a :: vs).length = fi.ps.length := by
            by_cases q : (Sl.own cs :: ds.map Sl.val).length = fi.ps.length
            · rw [← q, List.length_cons, List.length_cons, List.length_map, r1.len]
            · rw [g0.ar f fi _ hf q] at h1
              exact h1.elim
          refine ⟨hl, But (Of B e1 σ) a, Sl.own cs :: ds.map Sl.val, rs1.argsIo ho w0 r1, ?_⟩
          cases q : C.call f (Sl.own cs :: ds.map Sl.val) with
          | ok d cs' =>
            rw [q] at h1
            intro v H' r' st' rp
            obtain ⟨rs2, st2, res⟩ := rs1.calledIo ho w0 r' st'
            exact h1 v H' rs2 st2 (res rp)
          | ex ev =>
            rw [q] at h1
            exact h1.elim
          | no =>
            rw [q] at h1
            exact h1.elim
/-! ### built-ins -/
theorem pa_one {X : Cx} {t : TE} (h : PE X x t) (hs : isStar x = false) : PA X [x] (tCons t tNil) := pa_cons h pa_nil (star_cons hs)
theorem blt_of {X : Cx} (ok : Ok RX Γ C gv X W) {n : Str} (h : (bltNames.contains n) = true) : X.mg n = none := ok.blt n (List.contains_iff_mem.mp h)
theorem se_prim {p : Prim} {q : Pos} (hp : onePrim p = true) (hg : glB Γ p.name = true) (hst : isStar y = false) (hs : SL RX Γ C gv K W [y] fs) : SE RX Γ C gv K W (.Call (.Name p.name q) [y] [] pos) fun e => (fs e).bind fun ds e => R.of (prim p ds) e := by
  obtain ⟨ts, ps, qs⟩ := hs
  refine ⟨tCB (rPrim K p) ts, fun X ok hK => ?_, fun B e σ H Q rs h => ?_⟩
  · subst hK
    obtain ⟨g1, g2, g3⟩ := ok.gl hg
    cases p with
    | len => exact pe_callB len_ok g1 (blt_of ok (by decide +kernel)) (by decide +kernel) (ps X ok rfl) g3 g2 (star_cons hst) rfl
    | abs => exact pe_callB abs_ok g1 (blt_of ok (by decide +kernel)) (by decide +kernel) (ps X ok rfl) g3 g2 (star_cons hst) rfl
    | int => exact pe_callTy int_ok g1 (blt_of ok (by decide +kernel)) (by decide +kernel) (ps X ok rfl) g3 g2 (star_cons hst) rfl
    | tuple => exact pe_callTy tuple_ok g1 (blt_of ok (by decide +kernel)) (by decide +kernel) (ps X ok rfl) g3 g2 (star_cons hst) rfl
    | sum => exact pe_callB (sum_ok ok.calm) g1 (blt_of ok (by decide +kernel)) (by decide +kernel) (ps X ok rfl) g3 g2 (star_cons hst) rfl
    | min1 => exact pe_callB (min_ok ok.calm) g1 (blt_of ok (by decide +kernel)) (by decide +kernel) (ps X ok rfl) g3 g2 (star_cons hst) rfl
    | max1 => exact pe_callB (max_ok ok.calm) g1 (blt_of ok (by decide +kernel)) (by decide +kernel) (ps X ok rfl) g3 g2 (star_cons hst) rfl
    | list => exact pe_callTy list_ok g1 (blt_of ok (by decide +kernel)) (by decide +kernel) (ps X ok rfl) g3 g2 (star_cons hst) rfl
    | _ => cases hp
  · refine qs B e σ H _ rs (Post.bind h fun ds e1 vs H1 _ rs1 _ r1 h1 => ?_)
    obtain ⟨d, hd, q⟩ := Post.vok rs1 h1
    exact ⟨Of B e1 σ, ds, d, fun a => rs1.al a, r1, hd, q⟩
theorem se_prim2 {p : Prim2} {q : Pos} (hg : glB Γ p.name = true) (s1 : isStar y = false) (s2 : isStar z = false) (ha : SE RX Γ C gv K W y fa) (hb : SE RX Γ C gv K W z fb) :
    SE RX Γ C gv K W (.Call (.Name p.name q) [y, z] [] pos) fun e => (fa e).bind fun a e => (fb e).bind fun b e => R.of (prim2 p a b) e := by
  obtain ⟨ta, pa, qa⟩ := ha
  obtain ⟨tb, pb, qb⟩ := hb
  refine ⟨tCB (rPrim2 K p) (tCons ta (tCons tb tNil)), fun X ok hK => ?_, fun B e σ H Q rs h => ?_⟩
  · subst hK
    obtain ⟨g1, g2, g3⟩ := ok.gl hg
    have pp : PA X [y, z] (tCons ta (tCons tb tNil)) := pa_cons (pa X ok rfl) (pa_cons (pb X ok rfl) pa_nil (star_cons s2)) (star_cons s1)
    have sa : (backTo pos (starEach [z] X.env)).any (·.1) = false := star_any (by unfold noStar; simp [s2])
    cases p with
    | min2 => exact pe_callB (min2_ok ok.calm) g1 (blt_of ok (by decide +kernel)) (by decide +kernel) pp g3 g2 (star_cons s1) sa
    | max2 => exact pe_callB (max2_ok ok.calm) g1 (blt_of ok (by decide +kernel)) (by decide +kernel) pp g3 g2 (star_cons s1) sa
  · refine qa B e σ H _ rs (Post.bind h fun d1 e1 v1 H1 _ rs1 _ r1 h1 => ?_)
    refine qb B e1 σ H1 _ rs1 (Post.bind h1 fun d2 e2 v2 H2 _ rs2 st2 r2 h2 => ?_)
    obtain ⟨d, hd, q⟩ := Post.vok rs2 h2
    exact ⟨Of B e2 σ, d1, d2, d, v1, v2, rfl, rs1.keep st2 r1, r2, hd, q⟩
theorem se_rev {k : Nat} {p1 p2 p3 : Pos} (ha : SE RX Γ C gv K W x fa) : SE RX Γ C gv K W (.Subscript x (.Slice none none (some (.UnaryOp .USub (.Constant (.int 1) k p1) p2)) p3) pos) fun e => (fa e).bind fun a e => R.of (revop a) e := by
  obtain ⟨ta, pa, qa⟩ := ha
  refine ⟨tRev K ta, fun X ok hK => by subst hK; exact pe_rev (pa X ok rfl), fun B e σ H Q rs h => ?_⟩
  refine qa B e σ H _ rs (Post.bind h fun d1 e1 v1 H1 _ rs1 _ r1 h1 => ?_)
  obtain ⟨d, hd, q⟩ := Post.vok rs1 h1
  cases d1 with
  | lst ds =>
    cases hd
    obtain ⟨a, vs, e, _, s1, r⟩ := r1.unlst
    exact ⟨a, vs, e, .inl ⟨.inl (.inl s1), fun p hp => q.newL (fun a => rs1.al a) r.rev hp⟩⟩
  | tup ds =>
    cases hd
    obtain ⟨a, vs, e, s1, r⟩ := r1.untup
    exact ⟨a, vs, e, .inr ⟨s1, fun p hp => q.newT r.rev hp⟩⟩
  | _ => cases hd
theorem pe_ty {X : Cx} (ok : Ok RX Γ C gv X W) {n : Str} {t : String} {q : Pos} (hg : glB Γ n = true) (hb : (bltNames.contains n) = true) (hv : bootBuiltins n = some (.type t)) : PE X (.Name n q) (tC (.ty t)) := by
  obtain ⟨g1, g2, g3⟩ := ok.gl hg
  exact pe_bltn g1 (blt_of ok hb) hv rfl g3 g2
theorem nameB_i {n : Str} {ex : PySem.Expr} (h : nameB n ex = true) : ∃ q, ex = .Name n q := by
  cases ex with
  | Name x q =>
    have e : x = n := by simpa [nameB] using h
    rw [e]
    exact ⟨q, rfl⟩
  | _ => cases h
def isiF (p : Prim) (fa : Env → R D) : Env → R D := fun e => (fa e).bind fun x e => R.of (prim p [x]) e
theorem se_isi {p : Prim} {q : Pos} (hg : glB Γ "isinstance" = true) (hst : isStar y = false) (hc : clsB Γ p z = true) (ha : SE RX Γ C gv K W y fa) : SE RX Γ C gv K W (.Call (.Name "isinstance" q) [y, z] [] pos) (isiF p fa) := by
  obtain ⟨ta, pa, qa⟩ := ha
  have one : ∀ (n : Str) (t : String), (p = .isInt ∨ p = .isBool ∨ p = .isTup ∨ p = .isLst ∨ p = .isStr) → clsN p = t → nameB n z = true → glB Γ n = true → (bltNames.contains n) = true → bootBuiltins n = some (.type t) → SE RX Γ C gv K W (.Call (.Name "isinstance" q) [y, z] [] pos) (isiF p fa) := by
    intro n t hp ht hn hgn hb hv
    obtain ⟨qz, rfl⟩ := nameB_i hn
    subst ht
    refine ⟨tCB (rIsi K) (tCons ta (tCons (tC (.ty (clsN p))) tNil)), fun X ok hK => ?_, fun B e σ H Q rs h => ?_⟩
    · subst hK
      obtain ⟨g1, g2, g3⟩ := ok.gl hg
      exact pe_callB call_isi g1 (blt_of ok (by decide +kernel)) PyProof.Rows.boot_isinstance (pa_cons (pa X ok rfl) (pa_one (pe_ty ok hgn hb hv) rfl) (star_cons hst)) g3 g2 (star_cons hst) rfl
    · have h : PostE RX K W B e σ H (isiF p fa e) Q := h
      refine qa B e σ H _ rs (Post.bind h fun d e1 v H1 _ rs1 _ r1 h1 => ?_)
      obtain ⟨d', hd, q⟩ := Post.vok rs1 h1
      exact isi_ok hp r1 hd q
  cases p with
  | isInt => obtain ⟨h1, h2⟩ := and2 hc; exact one "int" "int" (.inl rfl) rfl h1 h2 (by decide +kernel) (by decide +kernel)
  | isBool => obtain ⟨h1, h2⟩ := and2 hc; exact one "bool" "bool" (.inr (.inl rfl)) rfl h1 h2 (by decide +kernel) (by decide +kernel)
  | isTup => obtain ⟨h1, h2⟩ := and2 hc; exact one "tuple" "tuple" (.inr (.inr (.inl rfl))) rfl h1 h2 (by decide +kernel) (by decide +kernel)
  | isLst => obtain ⟨h1, h2⟩ := and2 hc; exact one "list" "list" (.inr (.inr (.inr (.inl rfl)))) rfl h1 h2 (by decide +kernel) (by decide +kernel)
  | isStr => obtain ⟨h1, h2⟩ := and2 hc; exact one "str" "str" (.inr (.inr (.inr (.inr rfl)))) rfl h1 h2 (by decide +kernel) (by decide +kernel)
  | isSeq =>
    cases z with
    | Tuple zs kk qz =>
      match zs, hc with
      | [a, b], hc =>
        obtain ⟨h12, h34⟩ := and2 (show ((nameB "tuple" a && nameB "list" b) && (glB Γ "tuple" && glB Γ "list")) = true from hc)
        obtain ⟨h1, h2⟩ := and2 h12
        obtain ⟨h3, h4⟩ := and2 h34
        obtain ⟨qa', rfl⟩ := nameB_i h1
        obtain ⟨qb', rfl⟩ := nameB_i h2
        refine ⟨tCB (rIsiT K) (tCons ta (tCons (tTup (tCons (tC (.ty "tuple")) (tCons (tC (.ty "list")) tNil))) tNil)), fun X ok hK => ?_, fun B e σ H Q rs h => ?_⟩
        · subst hK
          obtain ⟨g1, g2, g3⟩ := ok.gl hg
          exact pe_callB call_isiT g1 (blt_of ok (by decide +kernel)) PyProof.Rows.boot_isinstance (pa_cons (pa X ok rfl) (pa_one (pe_tup (pa_cons (pe_ty ok h3 (by decide +kernel) (by decide +kernel)) (pa_one (pe_ty ok h4 (by decide +kernel) (by decide +kernel)) rfl) (star_cons rfl))) rfl) (star_cons hst)) g3 g2 (star_cons hst) rfl
        · have h : PostE RX K W B e σ H (isiF .isSeq fa e) Q := h
          refine qa B e σ H _ rs (Post.bind h fun d e1 v H1 _ rs1 _ r1 h1 => ?_)
          refine ⟨?_, fun tp ht => ?_⟩
          · show 2 ≤ sizeLine
            rw [sizeLine_eq]
            decide
          · obtain ⟨rs2, st2⟩ := rs1.laid (o := .tup [.ty "tuple", .ty "list"]) ht
            obtain ⟨d', hd, q⟩ := Post.vok rs2 (Post.shift st2 h1)
            exact isiT_ok (rs1.keep st2 r1) upd_same hd q
    | _ => cases hc
  | _ => cases z <;> cases hc
theorem se_olen {i : Nat} {n : Str} {p q : Pos} (hg : glB Γ "len" = true) (h1 : Γ.N[i]? = some n) (h2 : visB Γ n = true) : SE RX Γ C gv K W (.Call (.Name "len" p) [.Name n q] [] pos) fun e => match getO e i with
    | some ds => R.of (prim .len [.lst ds]) e
    | none => .no := by
  refine ⟨tCB (fun xs H Q => ∃ p ys, xs = [.ref p] ∧ (SqL K H p ys ∨ SqT K H p ys) ∧ Q (.int ys.length) H) (tCons (tVar i) tNil), fun X ok hK => ?_, fun B e σ H Q rs h => ?_⟩
  · subst hK
    obtain ⟨g1, g2, g3⟩ := ok.gl hg
    exact pe_callB call_len_seq g1 (blt_of ok (by decide +kernel)) (by decide +kernel) (pa_one (pe_slot ok h1 h2) rfl) g3 g2 (star_cons rfl) rfl
  · cases k : getO e i with
    | none => simp only [k] at h; exact h.elim
    | some ds =>
      simp only [k] at h
      obtain ⟨d, hd, q⟩ := Post.vok rs h
      obtain ⟨a, vs, w1, w2, w3, w4⟩ := rs.own i ds (getO_own k)
      simp only [prim] at hd
      split at hd
      · cases hd
        refine ⟨.ref a, w1, a, vs, rfl, .inl (.inl (.inl w3)), ?_⟩
        rw [← w4.len]
        exact q.same (.int _)
      · cases hd
/-! ### what is walked -/
def iSeq (K : PySem.W.Frag) (te : TE) : TI := fun σ H R => te σ H fun x H1 => ∃ a, x = .ref a ∧ ((∃ xs, SqL K H1 a xs ∧ R (Itl K a) H1) ∨ ∃ xs, SqT K H1 a xs ∧ R (Itt K a) H1)
theorem pi_seq {X : Cx} {tg l : PySem.Expr} {tl : TE} (hl : PE X l tl) : PI X tg l (iSeq X.K tl) := by
  refine ⟨fun pins s σ H R I h => ?_⟩
  refine thn (hl.run pins s σ H _ I h) fun v s1 ⟨x, H1, I1, r1, q1⟩ => ?_
  obtain ⟨a, e, q⟩ := q1
  subst e
  cases r1
  rcases q with ⟨xs, hq, q⟩ | ⟨xs, hq, q⟩
  · obtain ⟨its, rv, p, hz⟩ := I1.list hq
    refine wpAny_pyIter_list p.isList ?_
    refine ⟨s1.heap.objs.size, [s1.heap.objs.size], _, _, H1, rfl, I1.kept (t' := s1.toks) fun b o e => Heap.get?_push_of_some _ e, turn_list a _, ⟨_, Heap.get?_push_size _ rfl, rfl, rfl⟩, fun b hb => ?_, q⟩
    have e : b = s1.heap.objs.size := by simpa using hb
    subst e
    exact I1.fpOk (Nat.le_refl _) (I1.hok.fresh (Nat.le_refl _))
  · obtain ⟨its, rv, p, hz⟩ := I1.tuple hq
    refine wpAny_pyIter_tuple (show s1.heap.IsTuple a its.toArray from p) ?_
    refine ⟨s1.heap.objs.size, [s1.heap.objs.size], _, _, H1, rfl, I1.kept (t' := s1.toks) fun b o e => Heap.get?_push_of_some _ e, turn_tuple a _, ⟨_, Heap.get?_push_size _ rfl, rfl, rfl⟩, fun b hb => ?_, q⟩
    have e : b = s1.heap.objs.size := by simpa using hb
    subst e
    exact I1.fpOk (Nat.le_refl _) (I1.hok.fresh (Nat.le_refl _))
def itemsF (fa : Env → R D) : Env → R (List D) := fun e => (fa e).bind fun x e => match x with
    | .tup ds => .ok ds e
    | .lst ds => .ok ds e
    | .fz ds => .ok ds e
    | _ => .no
theorem si_items {tg : PySem.Expr} (ha : SE RX Γ C gv K W x fa) : SI RX Γ C gv K W tg x (itemsF fa) := by
  obtain ⟨ta, pa, qa⟩ := ha
  refine ⟨iSeq K ta, fun X ok hK => by subst hK; exact pi_seq (pa X ok rfl), fun B e σ H Q rs h => ?_⟩
  have h : Post RX K W B e σ H (Wk K) (itemsF fa e) Q := h
  refine qa B e σ H _ rs (Post.bind h fun d e1 v H1 _ rs1 _ r1 h1 => ?_)
  cases d with
  | tup ds =>
    obtain ⟨a, vs, rfl, s1, r2⟩ := r1.untup
    exact ⟨a, rfl, .inr ⟨vs, s1, h1 _ H1 rs1 .refl (.inr (.inl ⟨a, rfl, r1⟩))⟩⟩
  | lst ds =>
    obtain ⟨a, vs, rfl, _, s1, r2⟩ := r1.unlst
    exact ⟨a, rfl, .inl ⟨vs, .inl (.inl s1), h1 _ H1 rs1 .refl (.inl ⟨a, rfl, .inl r1⟩)⟩⟩
  | fz ds =>
    obtain ⟨a, vs, rfl, s1, r2⟩ := r1.unfz
    exact ⟨a, rfl, .inl ⟨vs, s1, h1 _ H1 rs1 .refl (.inl ⟨a, rfl, .inr r1⟩)⟩⟩
  | _ => exact h1.elim
def rng1F (fa : Env → R D) : Env → R (List D) := fun e => (fa e).bind fun x e => match x with
    | .int n => if rangeOk 0 n = true then .ok (range_ 0 n.toNat) e else .no
    | _ => .no
theorem si_rng1 {tg : PySem.Expr} {q : Pos} (hg : glB Γ "range" = true) (hst : isStar x = false) (ha : SE RX Γ C gv K W x fa) : SI RX Γ C gv K W tg (.Call (.Name "range" q) [x] [] pos) (rng1F fa) := by
  obtain ⟨ta, pa, qa⟩ := ha
  refine ⟨iRng1 (tCons ta tNil), fun X ok hK => ?_, fun B e σ H Q rs h => ?_⟩
  · obtain ⟨g1, g2, g3⟩ := ok.gl hg
    exact pi_range1 g1 (blt_of ok (by decide +kernel)) (pa_one (pa X ok hK) hst) (star_cons hst)
  · have h : Post RX K W B e σ H (Wk K) (rng1F fa e) Q := h
    refine qa B e σ H _ rs (Post.bind h fun d e1 v H1 _ rs1 _ r1 h1 => ?_)
    cases d with
    | int n =>
      simp only at h1
      split at h1
      · rename_i hr
        obtain ⟨_, _, b1, b2⟩ := of_decide_eq_true hr
        exact ⟨n, by rw [r1.unint], b1, b2, h1 _ H1 rs1 .refl (.inr (.inr ⟨0, n.toNat, rfl, rfl⟩))⟩
      · exact h1.elim
    | _ => exact h1.elim
def rng2F (fa fb : Env → R D) : Env → R (List D) := fun e => (fa e).bind fun x e => (fb e).bind fun y e => match x, y with
    | .int i, .int j => if rangeOk i j = true then .ok (range_ i (j - i).toNat) e else .no
    | _, _ => .no
theorem si_rng2 {tg : PySem.Expr} {q : Pos} (hg : glB Γ "range" = true) (hst : isStar x = false) (hst2 : isStar y = false) (ha : SE RX Γ C gv K W x fa) (hb : SE RX Γ C gv K W y fb) : SI RX Γ C gv K W tg (.Call (.Name "range" q) [x, y] [] pos) (rng2F fa fb) := by
  obtain ⟨ta, pa, qa⟩ := ha
  obtain ⟨tb, pb, qb⟩ := hb
  refine ⟨iRng2 (tCons ta (tCons tb tNil)), fun X ok hK => ?_, fun B e σ H Q rs h => ?_⟩
  · obtain ⟨g1, g2, g3⟩ := ok.gl hg
    exact pi_range2 g1 (blt_of ok (by decide +kernel)) (pa_cons (pa X ok hK) (pa_one (pb X ok hK) hst2) (star_cons hst)) (by rw [star_cons hst, star_cons hst2]; rfl) (star_cons hst2)
  · have h : Post RX K W B e σ H (Wk K) (rng2F fa fb e) Q := h
    refine qa B e σ H _ rs (Post.bind h fun d e1 v H1 _ rs1 _ r1 h1 => ?_)
    refine qb B e1 σ H1 _ rs1 (Post.bind h1 fun d2 e2 v2 H2 _ rs2 st2 r2 h2 => ?_)
    cases d with
    | int i =>
      cases d2 with
      | int j =>
        simp only at h2
        split at h2
        · rename_i hr
          refine ⟨i, j, ?_, of_decide_eq_true hr, h2 _ H2 rs2 .refl (.inr (.inr ⟨i, (j - i).toNat, rfl, rfl⟩))⟩
          rw [r1.unint, r2.unint]
        · exact h2.elim
      | _ => exact h2.elim
    | _ => cases d2 <;> exact h2.elim
end
section
variable {K : PySem.W.Frag} {O : Addr → Prop} {H : Hp} {ds : List D} {J : It}
theorem range_get : ∀ {n : Nat} {lo : Int} {i : Nat} {d : D}, (range_ lo n)[i]? = some d → i < n ∧ d = .int (lo + i)
  | 0, lo, i, d, h => by simp [range_] at h
  | n + 1, lo, 0, d, h => by
    have e : D.int lo = d := by simpa [range_] using h
    subst e
    exact ⟨by omega, by simp⟩
  | n + 1, lo, i + 1, d, h => by
    have h : (range_ (lo + 1) n)[i]? = some d := by simpa [range_] using h
    obtain ⟨h1, h2⟩ := range_get h
    refine ⟨by omega, ?_⟩
    rw [h2]
    congr 1
    omega
theorem range_len : ∀ {n : Nat} {lo : Int}, (range_ lo n).length = n
  | 0, lo => rfl
  | n + 1, lo => by rw [range_, List.length_cons, range_len]
/-- the next item -/
theorem Wk.go (w : Wk K O H ds J) {i : Nat} {d : D} (h : ds[i]? = some d) : J.go i H ∧ ∀ x H', J.yld i H x H' → H' = H ∧ Rp K O H d x := by
  rcases w with ⟨a, rfl, w⟩ | ⟨a, rfl, w⟩ | ⟨lo, n, rfl, rfl⟩
  · have key : ∀ vs, SqL K H a vs → Rps K O H ds vs → (Itl K a).go i H ∧ ∀ x H', (Itl K a).yld i H x H' → H' = H ∧ Rp K O H d x := fun vs s r => by
      obtain ⟨v, q1, q2⟩ := r.get h
      refine ⟨⟨vs, v, s, q1⟩, fun x H' z => ⟨z.1, ?_⟩⟩
      have q3 := z.2 vs s
      rw [q1] at q3
      cases q3
      exact q2
    rcases w with w | w
    · obtain ⟨a', vs, e, _, s, r⟩ := w.unlst
      cases e
      exact key vs (.inl (.inl s)) r
    · obtain ⟨a', vs, e, s, r⟩ := w.unfz
      cases e
      exact key vs s r
  · obtain ⟨a', vs, e, s, r⟩ := w.untup
    cases e
    obtain ⟨v, q1, q2⟩ := r.get h
    refine ⟨⟨vs, v, s, q1⟩, fun x H' z => ⟨z.1, ?_⟩⟩
    have q3 := z.2 vs s
    rw [q1] at q3
    cases q3
    exact q2
  · obtain ⟨h1, h2⟩ := range_get h
    refine ⟨h1, fun x H' z => ⟨z.1, ?_⟩⟩
    rw [z.2, h2]
    exact .int _
theorem Wk.stop (w : Wk K O H ds J) {i : Nat} (h : ds.length ≤ i) : J.stop i H := by
  rcases w with ⟨a, rfl, w⟩ | ⟨a, rfl, w⟩ | ⟨lo, n, rfl, rfl⟩
  · rcases w with w | w
    · obtain ⟨a', vs, e, _, s, r⟩ := w.unlst
      cases e
      exact ⟨vs, .inl (.inl s), by rw [← r.len]; exact h⟩
    · obtain ⟨a', vs, e, s, r⟩ := w.unfz
      cases e
      exact ⟨vs, s, by rw [← r.len]; exact h⟩
  · obtain ⟨a', vs, e, s, r⟩ := w.untup
    cases e
    exact ⟨vs, s, by rw [← r.len]; exact h⟩
  · show n ≤ i
    rwa [range_len] at h
variable {B : Addr → Prop} {e e' : Env} {σ σ' : L2.St} {H' : Hp}
theorem Wk.keep (w : Wk K (Of B e σ) H ds J) (rs : RSt K B H e σ) (st : Stp H e σ H' e' σ') : Wk K (Of B e' σ') H' ds J := by
  rcases w with ⟨a, rfl, w⟩ | ⟨a, rfl, w⟩ | w
  · exact .inl ⟨a, rfl, w.imp (rs.keep st) (rs.keep st)⟩
  · exact .inr (.inl ⟨a, rfl, rs.keep st w⟩)
  · exact .inr (.inr w)
end
end Ev
set_option Elab.async false
set_option linter.all false
set_option maxRecDepth 100000
set_option maxHeartbeats 4000000
set_option autoImplicit false
/-! Ev8: targets, comprehensions. -/
namespace Ev
open PySem PySem.Spec PyProof.Rows L2
section
variable {RX : RXT} {Γ : Gam} {C : Ctx} {gv : Nat → V} {K : PySem.W.Frag} {W : WX} {pos : Pos}
/-! ### targets -/
def SG (RX : RXT) (Γ : Gam) (C : Ctx) (gv : Nat → V) (K : PySem.W.Frag) (W : WX) (t : Tg) (tg : PySem.Expr) : Prop := ∃ g : TG, (∀ X, Ok RX Γ C gv X W → X.K = K → PG X tg g) ∧
  ∀ B e σ H d v (Q : L2.St → Hp → Prop), RSt K B H e σ → Rp K (Of B e σ) H d v → (match bindT t d e with
    | some e' => ∀ σ', RSt K B H e' σ' → Stp H e σ H e' σ' → (∀ j, j ∉ t.slots → σ'[j]? = σ[j]?) → Q σ' H
    | none => False) → g v σ H Q
def SGs (RX : RXT) (Γ : Gam) (C : Ctx) (gv : Nat → V) (K : PySem.W.Frag) (W : WX) (t : Tg) (ts : List PySem.Expr) : Prop := ∃ g : TGs, (∀ X, Ok RX Γ C gv X W → X.K = K → PGs X ts g) ∧
  ∀ B e σ H ds vs (Q : L2.St → Hp → Prop), RSt K B H e σ → Rps K (Of B e σ) H ds vs → (match bindT t (.lst ds) e with
    | some e' => ∀ σ', RSt K B H e' σ' → Stp H e σ H e' σ' → (∀ j, j ∉ t.slots → σ'[j]? = σ[j]?) → Q σ' H
    | none => False) → g vs σ H Q
theorem mGs_len {t : Tg} : ∀ {es : List PySem.Expr} {ds : List D} {e e' : Env}, mGs Γ t es = true → bindT t (.lst ds) e = some e' → ds.length = es.length := by
  induction t with
  | nm i => intro es ds e e' h; cases h
  | tp t _ => intro es ds e e' h; cases h
  | nil =>
    intro es ds e e' h q
    cases ds with
    | nil => cases es with
      | nil => rfl
      | cons _ _ => cases h
    | cons _ _ => cases q
  | cons t ts _ ih =>
    intro es ds e e' h q
    obtain ⟨x, r, rfl, h⟩ := asC_i h
    obtain ⟨h1, h2⟩ := and2 h
    cases ds with
    | nil => cases q
    | cons d ds =>
      have q : ((bindT t d e).bind fun e1 => bindT ts (.lst ds) e1) = some e' := q
      cases z : bindT t d e with
      | none => rw [z] at q; cases q
      | some e1 =>
        rw [z] at q
        rw [List.length_cons, List.length_cons, ih h2 q]
theorem mG_star {t : Tg} {x : PySem.Expr} (h : mG Γ t x = true) : isStar x = false := by
  cases t with
  | nm i => obtain ⟨n, p, rfl, _⟩ := asName_i h; rfl
  | tp t => obtain ⟨es, n, p, rfl, _⟩ := asTup_i h; rfl
  | nil => cases h
  | cons _ _ => cases h
theorem each_cons {x : PySem.Expr} {es : List PySem.Expr} {env : PySem.Env} (h : isStar x = false) : (assignEach (x :: es) env).map (·.2) = assign x env :: (assignEach es env).map (·.2) := by
  cases x <;> first | rfl | cases h
theorem each_len {env : PySem.Env} : ∀ {es : List PySem.Expr}, (assignEach es env).length = es.length
  | [] => rfl
  | x :: es => by
    have : (assignEach (x :: es) env).length = (assignEach es env).length + 1 := by cases x <;> rfl
    rw [this, each_len, List.length_cons]
theorem each_none {env : PySem.Env} : ∀ {es : List PySem.Expr}, noStar es = true → (assignEach es env).findIdx? (·.1) = none
  | [], _ => rfl
  | x :: es, h => by
    obtain ⟨h1, h2⟩ := noStar_cons h
    have e : assignEach (x :: es) env = (false, assign x env) :: assignEach es env := by
      cases x <;> first | rfl | cases h1
    rw [e, List.findIdx?_cons]
    simp [each_none h2]
/-- a tuple or a list taken apart -/
def gSeq (K : PySem.W.Frag) (n : Nat) (t : TGs) : TG := fun v σ H Q => gTup K n t v σ H Q ∨ gUnl K n t v σ H Q
theorem pg_seq {X : Cx} {e : PySem.Expr} {n : Nat} {t : TGs} (h1 : PG X e (gTup X.K n t)) (h2 : PG X e (gUnl X.K n t)) : PG X e (gSeq X.K n t) := by
  refine ⟨fun pins s σ H v u Q I r hw => ?_⟩
  rcases hw with hw | hw
  · exact h1.run pins s σ H v u Q I r hw
  · exact h2.run pins s σ H v u Q I r hw
theorem tg_ok (t : Tg) : (∀ x, mG Γ t x = true → SG RX Γ C gv K W t x) ∧ (∀ xs, mGs Γ t xs = true → SGs RX Γ C gv K W t xs) := by
  induction t with
  | nm i =>
    refine ⟨fun x h => ?_, fun xs h => by cases h⟩
    obtain ⟨n, p, rfl, h⟩ := asName_i h
    obtain ⟨h1, h2⟩ := and2 h
    refine ⟨gName i, fun X ok hK => ?_, fun B e σ H d v Q rs r h => ?_⟩
    · obtain ⟨s1, s2⟩ := ok.st h2
      exact pg_name (by rw [ok.hN]; exact ok.nd) (by rw [ok.hN]; exact of_decide_eq_true h1) s1 s2
    · obtain ⟨rs', st'⟩ := rs.put (i := i) r
      refine h (σ.set i (some v)) rs' st' fun j hj => ?_
      rw [List.getElem?_set_ne]
      intro z
      exact hj (by rw [z]; exact List.mem_singleton.mpr rfl)
  | tp t ih =>
    refine ⟨fun x h => ?_, fun xs h => by cases h⟩
    obtain ⟨es, n, p, rfl, h⟩ := asTup_i h
    obtain ⟨h1, h2⟩ := and2 h
    obtain ⟨g, pg, qg⟩ := ih.2 es h1
    refine ⟨gSeq K es.length g, fun X ok hK => by subst hK; exact pg_seq (pg_tup ok.calm (pg X ok rfl) each_len (each_none h2)) (pg_unl ok.calm (pg X ok rfl) each_len (each_none h2)), fun B e σ H d v Q rs r h => ?_⟩
    cases d with
    | tup ds =>
      obtain ⟨a, vs, rfl, s, r1⟩ := r.untup
      have h : (match bindT t (.lst ds) e with
        | some e' => ∀ σ', RSt K B H e' σ' → Stp H e σ H e' σ' → (∀ j, j ∉ t.slots → σ'[j]? = σ[j]?) → Q σ' H
        | none => False) := h
      refine .inl ⟨a, vs, rfl, s, ?_, qg B e σ H ds vs Q rs r1 h⟩
      cases z : bindT t (.lst ds) e with
      | none => rw [z] at h; exact h.elim
      | some e' => rw [← r1.len, mGs_len h1 z]
    | lst ds =>
      obtain ⟨a, vs, rfl, _, s, r1⟩ := r.unlst
      have h : (match bindT t (.lst ds) e with
        | some e' => ∀ σ', RSt K B H e' σ' → Stp H e σ H e' σ' → (∀ j, j ∉ t.slots → σ'[j]? = σ[j]?) → Q σ' H
        | none => False) := h
      refine .inr ⟨a, vs, rfl, .inl (.inl s), ?_, qg B e σ H ds vs Q rs r1 h⟩
      cases z : bindT t (.lst ds) e with
      | none => rw [z] at h; exact h.elim
      | some e' => rw [← r1.len, mGs_len h1 z]
    | _ => exact h.elim
  | nil =>
    refine ⟨fun x h => (by cases h), fun xs h => ?_⟩
    cases xs with
    | nil =>
      refine ⟨gNil, fun X ok hK => pgs_nil, fun B e σ H ds vs Q rs r h => ?_⟩
      cases ds with
      | nil => exact ⟨r.unnil, h σ rs .refl fun _ _ => rfl⟩
      | cons _ _ => exact h.elim
    | cons _ _ => cases h
  | cons t ts iht ihts =>
    refine ⟨fun x h => (by cases h), fun xs h => ?_⟩
    obtain ⟨x, r, rfl, h⟩ := asC_i h
    obtain ⟨h1, h2⟩ := and2 h
    obtain ⟨g1, p1, q1⟩ := iht.1 x h1
    obtain ⟨g2, p2, q2⟩ := ihts.2 r h2
    refine ⟨gCons g1 g2, fun X ok hK => pgs_cons (p1 X ok hK) (p2 X ok hK) (each_cons (mG_star h1)), fun B e σ H ds vs Q rs r h => ?_⟩
    cases ds with
    | nil => exact h.elim
    | cons d ds =>
      obtain ⟨v, vs', rfl, r1, r2⟩ := r.uncons
      have h : (match (bindT t d e).bind fun e1 => bindT ts (.lst ds) e1 with
        | some e' => ∀ σ', RSt K B H e' σ' → Stp H e σ H e' σ' → (∀ j, j ∉ t.slots ++ ts.slots → σ'[j]? = σ[j]?) → Q σ' H
        | none => False) := h
      refine ⟨v, vs', rfl, q1 B e σ H d v _ rs r1 ?_⟩
      cases z : bindT t d e with
      | none => rw [z] at h; exact h.elim
      | some e1 =>
        rw [z] at h
        intro σ1 rs1 st1 o1
        refine q2 B e1 σ1 H ds vs' Q rs1 (rs.keeps st1 r2) ?_
        have h : (match bindT ts (.lst ds) e1 with
          | some e' => ∀ σ', RSt K B H e' σ' → Stp H e σ H e' σ' → (∀ j, j ∉ t.slots ++ ts.slots → σ'[j]? = σ[j]?) → Q σ' H
          | none => False) := h
        cases z2 : bindT ts (.lst ds) e1 with
        | none => rw [z2] at h; exact h.elim
        | some e2 =>
          rw [z2] at h
          intro σ2 rs2 st2 o2
          refine h σ2 rs2 (st1.trans st2) fun j hj => ?_
          rw [List.mem_append] at hj
          rw [o2 j fun w => hj (.inr w), o1 j fun w => hj (.inl w)]
end
/-! ### slots wiped and put back -/
section
variable {K : PySem.W.Frag} {B : Addr → Prop} {e e' : Env} {σ σ' : L2.St} {H H' : Hp}
theorem wipes_len : ∀ {vs : List Nat}, (wipes e vs).length = e.length
  | [] => rfl
  | v :: vs => by rw [wipes, List.length_set, wipes_len]
theorem wipes_in {i : Nat} : ∀ {vs : List Nat}, i ∈ vs → (wipes e vs)[i]? = none ∨ (wipes e vs)[i]? = some none
  | v :: vs, h => by
    rw [wipes]
    by_cases q : v = i
    · subst q
      by_cases hv : v < (wipes e vs).length
      · exact .inr (by rw [List.getElem?_set_self hv])
      · exact .inl (by rw [List.getElem?_eq_none (by rw [List.length_set]; omega)])
    · rw [List.getElem?_set_ne q]
      rcases List.mem_cons.mp h with z | z
      · exact absurd z.symm q
      · exact wipes_in z
theorem wipes_out {i : Nat} : ∀ {vs : List Nat}, i ∉ vs → (wipes e vs)[i]? = e[i]?
  | [], _ => rfl
  | v :: vs, h => by
    rw [wipes, List.getElem?_set_ne (fun z => h (by rw [z]; exact List.mem_cons_self)), wipes_out fun z => h (List.mem_cons_of_mem _ z)]
theorem wipe_none {i : Nat} : ∀ {vs : List Nat}, i ∈ vs → (wipe σ vs)[i]? = none ∨ (wipe σ vs)[i]? = some none
  | v :: vs, h => by
    rw [wipe]
    by_cases q : v = i
    · subst q
      by_cases hv : v < (wipe σ vs).length
      · exact .inr (by rw [List.getElem?_set_self hv])
      · exact .inl (by rw [List.getElem?_eq_none (by rw [List.length_set]; omega)])
    · rw [List.getElem?_set_ne q]
      rcases List.mem_cons.mp h with z | z
      · exact absurd z.symm q
      · exact wipe_none z
theorem wipe_eq {vs : List Nat} (hl : σ.length = σ'.length) (h : ∀ j, j ∉ vs → σ'[j]? = σ[j]?) : wipe σ' vs = wipe σ vs := by
  refine List.ext_getElem? fun j => ?_
  by_cases hj : j ∈ vs
  · have hlen : (wipe σ' vs).length = (wipe σ vs).length := by rw [wipe_length, wipe_length, hl]
    by_cases hb : j < (wipe σ vs).length
    · have a1 : (wipe σ' vs)[j]? = some none := by
        rcases wipe_none (σ := σ') hj with z | z
        · rw [List.getElem?_eq_none_iff] at z; omega
        · exact z
      have a2 : (wipe σ vs)[j]? = some none := by
        rcases wipe_none (σ := σ) hj with z | z
        · rw [List.getElem?_eq_none_iff] at z; omega
        · exact z
      rw [a1, a2]
    · rw [List.getElem?_eq_none (by omega), List.getElem?_eq_none (by omega)]
  · rw [wipe_out hj, wipe_out hj, h j hj]
theorem backs_len {e1 : Env} : ∀ {vs : List Nat}, (backs e e1 vs).length = e1.length
  | [] => rfl
  | v :: vs => by rw [backs, List.length_set, backs_len]
theorem backs_out {e1 : Env} {i : Nat} : ∀ {vs : List Nat}, i ∉ vs → (backs e e1 vs)[i]? = e1[i]?
  | [], _ => rfl
  | v :: vs, h => by
    rw [backs, List.getElem?_set_ne (fun z => h (by rw [z]; exact List.mem_cons_self)), backs_out fun z => h (List.mem_cons_of_mem _ z)]
theorem backs_in {e1 : Env} {i : Nat} (hl : e1.length = e.length) : ∀ {vs : List Nat}, i ∈ vs → (backs e e1 vs)[i]? = e[i]?
  | v :: vs, h => by
    rw [backs]
    by_cases q : v = i
    · subst q
      by_cases hv : v < e.length
      · rw [List.getElem?_set_self (by rw [backs_len, hl]; exact hv), List.getElem?_eq_getElem hv]
        rfl
      · rw [List.getElem?_eq_none (by rw [List.length_set, backs_len]; omega), List.getElem?_eq_none (by omega)]
    · rw [List.getElem?_set_ne q]
      rcases List.mem_cons.mp h with z | z
      · exact absurd z.symm q
      · exact backs_in hl z
theorem own_wipes {vs : List Nat} {a : Addr} (h : OwnAt (wipes e vs) (wipe σ vs) a) : OwnAt e σ a := by
  obtain ⟨i, ds, h1, h2⟩ := h
  by_cases hi : i ∈ vs
  · rcases wipes_in (e := e) hi with z | z <;> (rw [z] at h1; cases h1)
  · rw [wipes_out hi] at h1
    rw [wipe_out hi] at h2
    exact ⟨i, ds, h1, h2⟩
theorem RSt.wipes (rs : RSt K B H e σ) (vs : List Nat) : RSt K B H (wipes e vs) (wipe σ vs) := by
  have mono : ∀ {d' : D} {v' : V}, Rp K (Of B e σ) H d' v' → Rp K (Of B (Ev.wipes e vs) (wipe σ vs)) H d' v' := fun {d' v'} q =>
    Rp.mono (S := fun _ => False) ⟨fun _ _ q _ => q, fun _ z => z.elim⟩ (fun _ z => z.elim) (fun b q => .inl (q.elim .inl fun z => .inr (own_wipes z))) q
  have monos : ∀ {d' : List D} {v' : List V}, Rps K (Of B e σ) H d' v' → Rps K (Of B (Ev.wipes e vs) (wipe σ vs)) H d' v' := fun {d' v'} q =>
    Rps.mono (S := fun _ => False) ⟨fun _ _ q _ => q, fun _ z => z.elim⟩ (fun _ z => z.elim) (fun b q => .inl (q.elim .inl fun z => .inr (own_wipes z))) q
  have out : ∀ {i : Nat} {sl : Sl}, (Ev.wipes e vs)[i]? = some (some sl) → i ∉ vs ∧ e[i]? = some (some sl) := fun {i sl} h => by
    by_cases hi : i ∈ vs
    · rcases wipes_in (e := e) hi with z | z <;> (rw [z] at h; cases h)
    · rw [wipes_out hi] at h
      exact ⟨hi, h⟩
  refine ⟨by rw [wipes_len, wipe_length]; exact rs.len, fun i d h => ?_, fun i ds h => ?_, fun i j ds es a h1 h2 h3 h4 => ?_, rs.bnd⟩
  · obtain ⟨hi, h⟩ := out h
    obtain ⟨v, w1, w2⟩ := rs.val i d h
    exact ⟨v, by rw [wipe_out hi]; exact w1, mono w2⟩
  · obtain ⟨hi, h⟩ := out h
    obtain ⟨a, us, w1, w2, w3, w4⟩ := rs.own i ds h
    exact ⟨a, us, by rw [wipe_out hi]; exact w1, w2, w3, monos w4⟩
  · obtain ⟨hi, h1⟩ := out h1
    obtain ⟨hj, h2⟩ := out h2
    rw [wipe_out hi] at h3
    rw [wipe_out hj] at h4
    exact rs.inj i j ds es a h1 h2 h3 h4
/-- one list more that nobody here may touch -/
def With (B : Addr → Prop) (p : Addr) : Addr → Prop := fun a => B a ∨ a = p
theorem RSt.with_ (rs : RSt K B H e σ) {p : Addr} {us : List V} (hp : H p = none) : RSt K (With B p) (upd H p (.lst us)) e σ := by
  have ofs : ∀ b, Of (With B p) e σ b → Of B e σ b ∨ H b = none := fun b q => by
    rcases q with (q | q) | q
    · exact .inl (.inl q)
    · exact .inr (by rw [q]; exact hp)
    · exact .inl (.inr q)
  have mono : ∀ {d' : D} {v' : V}, Rp K (Of B e σ) H d' v' → Rp K (Of (With B p) e σ) (upd H p (.lst us)) d' v' := fun {d' v'} q => Rp.mono (Fr.fresh hp) (fun _ z => z.elim) ofs q
  have monos : ∀ {d' : List D} {v' : List V}, Rps K (Of B e σ) H d' v' → Rps K (Of (With B p) e σ) (upd H p (.lst us)) d' v' := fun {d' v'} q => Rps.mono (Fr.fresh hp) (fun _ z => z.elim) ofs q
  refine ⟨rs.len, fun i d h => ?_, fun i ds h => ?_, rs.inj, fun a h => ?_⟩
  · obtain ⟨v, w1, w2⟩ := rs.val i d h
    exact ⟨v, w1, mono w2⟩
  · obtain ⟨a, ws, w1, w2, w3, w4⟩ := rs.own i ds h
    refine ⟨a, ws, w1, fun z => ?_, (Fr.fresh hp).fr _ _ w3 fun z => z, monos w4⟩
    rcases z with z | z
    · exact w2 z
    · rw [z, hp] at w3; cases w3
  · rcases h with h | h
    · obtain ⟨ws, w⟩ := rs.bnd a h
      exact ⟨ws, (Fr.fresh hp).fr _ _ w fun z => z⟩
    · exact ⟨us, by rw [h]; exact upd_same⟩
/-- that list is written by somebody else -/
theorem RSt.other (rs : RSt K B H e σ) {p : Addr} {us : List V} (hp : B p) : RSt K B (upd H p (.lst us)) e σ := by
  have fr : Fr (fun b => b = p) H (upd H p (.lst us)) := ⟨fun b o q n => by rw [upd_ne n]; exact q, fun b z => by rw [z]; exact rs.bnd p hp⟩
  have oa : ∀ b, b = p → Of B e σ b := fun b z => .inl (by rw [z]; exact hp)
  have mono : ∀ {d' : D} {v' : V}, Rp K (Of B e σ) H d' v' → Rp K (Of B e σ) (upd H p (.lst us)) d' v' := fun {d' v'} q => Rp.mono fr oa (fun b q => .inl q) q
  have monos : ∀ {d' : List D} {v' : List V}, Rps K (Of B e σ) H d' v' → Rps K (Of B e σ) (upd H p (.lst us)) d' v' := fun {d' v'} q => Rps.mono fr oa (fun b q => .inl q) q
  refine ⟨rs.len, fun i d h => ?_, fun i ds h => ?_, rs.inj, fun a h => ?_⟩
  · obtain ⟨v, w1, w2⟩ := rs.val i d h
    exact ⟨v, w1, mono w2⟩
  · obtain ⟨a, ws, w1, w2, w3, w4⟩ := rs.own i ds h
    refine ⟨a, ws, w1, w2, fr.fr _ _ w3 fun z => w2 (by rw [z]; exact hp), monos w4⟩
  · by_cases q : a = p
    · exact ⟨us, by rw [q]; exact upd_same⟩
    · obtain ⟨ws, w⟩ := rs.bnd a h
      exact ⟨ws, by rw [upd_ne q]; exact w⟩
theorem Rps.other (rs : RSt K B H e σ) {p : Addr} {us : List V} (hp : B p) {d' : List D} {v' : List V} (q : Rps K (Of B e σ) H d' v') : Rps K (Of B e σ) (upd H p (.lst us)) d' v' :=
  Rps.mono (S := fun b => b = p) ⟨fun b o q n => by rw [upd_ne n]; exact q, fun b z => by rw [z]; exact rs.bnd p hp⟩ (fun b z => .inl (by rw [z]; exact hp)) (fun b q => .inl q) q
theorem Rp.other (rs : RSt K B H e σ) {p : Addr} {us : List V} (hp : B p) {d' : D} {v' : V} (q : Rp K (Of B e σ) H d' v') : Rp K (Of B e σ) (upd H p (.lst us)) d' v' :=
  Rp.mono (S := fun b => b = p) ⟨fun b o q n => by rw [upd_ne n]; exact q, fun b z => by rw [z]; exact rs.bnd p hp⟩ (fun b z => .inl (by rw [z]; exact hp)) (fun b q => .inl q) q
theorem Wk.mono {S O O' : Addr → Prop} {ds : List D} {J : It} (f : Fr S H H') (hS : ∀ a, S a → O a) (hO : ∀ a, O' a → O a ∨ H a = none) (w : Wk K O H ds J) : Wk K O' H' ds J := by
  rcases w with ⟨a, rfl, w⟩ | ⟨a, rfl, w⟩ | w
  · exact .inl ⟨a, rfl, w.imp (Rp.mono f hS hO) (Rp.mono f hS hO)⟩
  · exact .inr (.inl ⟨a, rfl, Rp.mono f hS hO w⟩)
  · exact .inr (.inr w)
end
end Ev
set_option Elab.async false
set_option linter.all false
set_option maxRecDepth 100000
set_option maxHeartbeats 4000000
set_option autoImplicit false
/-! Ev9: comprehensions. -/
namespace Ev
open PySem PySem.Spec PyProof.Rows L2
section
variable {K : PySem.W.Frag} {B : Addr → Prop} {e e' e1 ec : Env} {σ σ' : L2.St} {H H' H1 : Hp} {p : Addr}
theorem Rps.wiped (vs : List Nat) {ds : List D} {us : List V} (h : Rps K (Of B e σ) H ds us) : Rps K (Of B (wipes e vs) (wipe σ vs)) H ds us :=
  Rps.mono (S := fun _ => False) ⟨fun _ _ q _ => q, fun _ z => z.elim⟩ (fun _ z => z.elim) (fun b q => .inl (q.elim .inl fun z => .inr (own_wipes z))) h
theorem RSt.notOwn (rs : RSt K B H e σ) {a : Addr} (h : B a) : ¬ OwnAt e σ a := fun ⟨i, ds, h1, h2⟩ => by
  obtain ⟨b, vs, q1, q2, _⟩ := rs.own i ds h1
  rw [h2] at q1
  cases q1
  exact q2 h
theorem bindT_len {t : Tg} : ∀ {d : D} {e e' : Env}, bindT t d e = some e' → e'.length = e.length := by
  induction t with
  | nm i =>
    intro d e e' h
    have h : some (e.set i (some (.val d))) = some e' := h
    cases h
    exact List.length_set
  | tp t ih =>
    intro d e e' h
    cases d with
    | tup ds => exact ih (d := .lst ds) h
    | lst ds => exact ih (d := .lst ds) h
    | _ => cases h
  | nil =>
    intro d e e' h
    cases d with
    | lst ds => cases ds with
      | nil =>
        have h : some e = some e' := h
        cases h
        rfl
      | cons _ _ => cases h
    | _ => cases h
  | cons t ts iht ihts =>
    intro d e e' h
    cases d with
    | lst ds => cases ds with
      | nil => cases h
      | cons x xs =>
        have h : ((bindT t x e).bind fun e1 => bindT ts (.lst xs) e1) = some e' := h
        cases z : bindT t x e with
        | none => rw [z] at h; cases h
        | some e1 =>
          rw [z] at h
          rw [ihts (d := .lst xs) h, iht z]
    | _ => cases h
theorem st_unwipe (rs1 : RSt K B H1 e1 σ) {D : Addr} {vs : List Nat} (hD : H1 D = none) (hv : ∀ i ∈ vs, ∀ ds, e1[i]? ≠ some (some (Sl.own ds))) (rs : RSt K (With B D) H (wipes ec vs) (wipe σ vs))
    (st : Stp H1 (wipes e1 vs) (wipe σ vs) H (wipes ec vs) (wipe σ vs)) : RSt K (With B D) H (backs e1 ec vs) σ ∧ Stp H1 e1 σ H (backs e1 ec vs) σ ∧ ∀ a, Of (With B D) (backs e1 ec vs) σ a → Of (With B D) (wipes ec vs) (wipe σ vs) a := by
  have hl : ec.length = e1.length := by
    have := rs.len
    rw [wipes_len, wipe_length] at this
    rw [this, rs1.len]
  have ow : ∀ {i : Nat} {ds : List Ev.D}, (backs e1 ec vs)[i]? = some (some (Sl.own ds)) → i ∉ vs ∧ (wipes ec vs)[i]? = some (some (Sl.own ds)) := fun {i ds} h => by
    by_cases hi : i ∈ vs
    · rw [backs_in hl hi] at h
      exact absurd h (hv i hi ds)
    · rw [backs_out hi] at h
      exact ⟨hi, by rw [wipes_out hi]; exact h⟩
  have oa : ∀ a, OwnAt (backs e1 ec vs) σ a → OwnAt (wipes ec vs) (wipe σ vs) a := fun a ⟨i, ds, h1, h2⟩ => by
    obtain ⟨hi, h1⟩ := ow h1
    exact ⟨i, ds, h1, by rw [wipe_out hi]; exact h2⟩
  have of : ∀ a, Of (With B D) (backs e1 ec vs) σ a → Of (With B D) (wipes ec vs) (wipe σ vs) a := fun a h => h.elim .inl fun z => .inr (oa a z)
  have st' : Stp H1 e1 σ H (backs e1 ec vs) σ := ⟨fun a o h n => st.fr a o h fun z => n (own_wipes z), st.al, fun a h => (st.sub a (oa a h)).imp own_wipes id⟩
  have mono : ∀ {d' : Ev.D} {v' : V}, Rp K (Of (With B D) (wipes ec vs) (wipe σ vs)) H d' v' → Rp K (Of (With B D) (backs e1 ec vs) σ) H d' v' := fun {d' v'} q =>
    Rp.mono (S := fun _ => False) ⟨fun _ _ q _ => q, fun _ z => z.elim⟩ (fun _ z => z.elim) (fun b q => .inl (of b q)) q
  have monos : ∀ {d' : List Ev.D} {v' : List V}, Rps K (Of (With B D) (wipes ec vs) (wipe σ vs)) H d' v' → Rps K (Of (With B D) (backs e1 ec vs) σ) H d' v' := fun {d' v'} q =>
    Rps.mono (S := fun _ => False) ⟨fun _ _ q _ => q, fun _ z => z.elim⟩ (fun _ z => z.elim) (fun b q => .inl (of b q)) q
  refine ⟨⟨by rw [backs_len, hl, rs1.len], fun i d h => ?_, fun i ds h => ?_, fun i j ds es a h1 h2 h3 h4 => ?_, rs.bnd⟩, st', of⟩
  · by_cases hi : i ∈ vs
    · rw [backs_in hl hi] at h
      obtain ⟨v, w1, w2⟩ := rs1.val i d h
      refine ⟨v, w1, Rp.mono (rs1.frame st') (fun a q => .inr q) (fun a q => ?_) w2⟩
      rcases q with (q | q) | q
      · exact .inl (.inl q)
      · exact .inr (by rw [q]; exact hD)
      · exact (st'.sub a q).imp .inr id
    · rw [backs_out hi] at h
      obtain ⟨v, w1, w2⟩ := rs.val i d (by rw [wipes_out hi]; exact h)
      rw [wipe_out hi] at w1
      exact ⟨v, w1, mono w2⟩
  · obtain ⟨hi, h⟩ := ow h
    obtain ⟨a, us, w1, w2, w3, w4⟩ := rs.own i ds h
    rw [wipe_out hi] at w1
    exact ⟨a, us, w1, w2, w3, monos w4⟩
  · obtain ⟨hi, h1⟩ := ow h1
    obtain ⟨hj, h2⟩ := ow h2
    exact rs.inj i j ds es a h1 h2 (by rw [wipe_out hi]; exact h3) (by rw [wipe_out hj]; exact h4)
/-- that list is none of ours any more -/
theorem RSt.less (rs : RSt K (With B p) H e σ) : RSt K B H e σ := by
  have of : ∀ a, Of B e σ a → Of (With B p) e σ a := fun a h => h.elim (fun z => .inl (.inl z)) .inr
  refine ⟨rs.len, fun i d h => ?_, fun i ds h => ?_, rs.inj, fun a h => rs.bnd a (.inl h)⟩
  · obtain ⟨v, w1, w2⟩ := rs.val i d h
    exact ⟨v, w1, Rp.mono (S := fun _ => False) ⟨fun _ _ q _ => q, fun _ z => z.elim⟩ (fun _ z => z.elim) (fun b q => .inl (of b q)) w2⟩
  · obtain ⟨a, us, w1, w2, w3, w4⟩ := rs.own i ds h
    exact ⟨a, us, w1, fun z => w2 (.inl z), w3, Rps.mono (S := fun _ => False) ⟨fun _ _ q _ => q, fun _ z => z.elim⟩ (fun _ z => z.elim) (fun b q => .inl (of b q)) w4⟩
/-- that list is a slot's own from now on -/
theorem RSt.adopt (rs : RSt K (With B p) H e σ) (nb : ¬ B p) {i : Nat} {ds : List D} {us : List V} (h : H p = some (.lst us)) (r : Rps K (Of (With B p) e σ) H ds us) :
    RSt K B H (e.set i (some (Sl.own ds))) (σ.set i (some (V.ref p))) ∧ ∀ a, OwnAt (e.set i (some (Sl.own ds))) (σ.set i (some (V.ref p))) a → OwnAt e σ a ∨ a = p := by
  have sub : ∀ b, OwnAt (e.set i (some (Sl.own ds))) (σ.set i (some (V.ref p))) b → OwnAt e σ b ∨ b = p := fun b ⟨j, fs, q1, q2⟩ => by
    rcases own_set_own q1 with ⟨rfl, rfl, _⟩ | ⟨hj, q⟩
    · rw [List.getElem?_set] at q2
      simp at q2
      exact .inr q2.2.symm
    · rw [List.getElem?_set_ne (Ne.symm hj)] at q2
      exact .inl ⟨j, fs, q, q2⟩
  have of : ∀ a, Of B (e.set i (some (Sl.own ds))) (σ.set i (some (V.ref p))) a → Of (With B p) e σ a := fun a h => h.elim (fun z => .inl (.inl z)) fun z => (sub a z).elim .inr fun w => .inl (.inr w)
  have mono : ∀ {d' : Ev.D} {v' : V}, Rp K (Of (With B p) e σ) H d' v' → Rp K (Of B (e.set i (some (Sl.own ds))) (σ.set i (some (V.ref p)))) H d' v' := fun {d' v'} q =>
    Rp.mono (S := fun _ => False) ⟨fun _ _ q _ => q, fun _ z => z.elim⟩ (fun _ z => z.elim) (fun b q => .inl (of b q)) q
  have monos : ∀ {d' : List Ev.D} {v' : List V}, Rps K (Of (With B p) e σ) H d' v' → Rps K (Of B (e.set i (some (Sl.own ds))) (σ.set i (some (V.ref p)))) H d' v' := fun {d' v'} q =>
    Rps.mono (S := fun _ => False) ⟨fun _ _ q _ => q, fun _ z => z.elim⟩ (fun _ z => z.elim) (fun b q => .inl (of b q)) q
  refine ⟨⟨by rw [List.length_set, List.length_set]; exact rs.len, fun j d q => ?_, fun j fs q => ?_, fun j k fs gs b q1 q2 q3 q4 => ?_, fun a h => rs.bnd a (.inl h)⟩, sub⟩
  · by_cases hj : i = j
    · subst hj
      have hi : i < e.length := by
        have := (List.getElem?_eq_some_iff.mp q).1
        rwa [List.length_set] at this
      rw [List.getElem?_set_self hi] at q
      cases q
    · rw [List.getElem?_set_ne hj] at q
      obtain ⟨v, w1, w2⟩ := rs.val j d q
      exact ⟨v, by rw [List.getElem?_set_ne hj]; exact w1, mono w2⟩
  · rcases own_set_own q with ⟨rfl, rfl, hi⟩ | ⟨hj, q'⟩
    · exact ⟨p, us, by rw [List.getElem?_set_self (by rw [← rs.len]; exact hi)], nb, h, monos r⟩
    · obtain ⟨b, ws, w1, w2, w3, w4⟩ := rs.own j fs q'
      exact ⟨b, ws, by rw [List.getElem?_set_ne (Ne.symm hj)]; exact w1, fun z => w2 (.inl z), w3, monos w4⟩
  · have neq : ∀ {j : Nat} {fs : List D} {b : Addr}, j ≠ i → (e.set i (some (Sl.own ds)))[j]? = some (some (Sl.own fs)) → (σ.set i (some (V.ref p)))[j]? = some (some (V.ref b)) → b ≠ p := fun {j fs b} hj q1 q2 z => by
      rcases own_set_own q1 with ⟨w, _⟩ | ⟨_, q⟩
      · exact hj w
      · rw [List.getElem?_set_ne (Ne.symm hj)] at q2
        exact rs.notOwn (.inr rfl) ⟨j, fs, q, by rw [q2, z]⟩
    have isp : ∀ {b : Addr}, (σ.set i (some (V.ref p)))[i]? = some (some (V.ref b)) → b = p := fun {b} q => by
      rw [List.getElem?_set] at q
      simp at q
      exact q.2.symm
    by_cases hj : j = i
    · by_cases hk : k = i
      · rw [hj, hk]
      · exact absurd (by rw [hj] at q3; exact isp q3) (neq hk q2 q4)
    · by_cases hk : k = i
      · exact absurd (by rw [hk] at q4; exact isp q4) (neq hj q1 q3)
      · rcases own_set_own q1 with ⟨w, _⟩ | ⟨_, z1⟩
        · exact absurd w hj
        rcases own_set_own q2 with ⟨w, _⟩ | ⟨_, z2⟩
        · exact absurd w hk
        rw [List.getElem?_set_ne (Ne.symm hj)] at q3
        rw [List.getElem?_set_ne (Ne.symm hk)] at q4
        exact rs.inj j k _ _ b z1 z2 q3 q4
end
section
variable {RX : RXT} {Γ : Gam} {C : Ctx} {gv : Nat → V} {K : PySem.W.Frag} {W : WX} {pos : Pos}
def W0 : WX := fun _ _ _ _ => False
theorem Ok.blk {X : Cx} (ok : Ok RX Γ C gv X W) {scope : Scope} {own : List (Str × Nat)} (hb : BlkOk Γ.N Γ.sc scope own) (s : Shared) (H : Hp) (c : Addr) (cl : List (Str × Addr)) (fp : List Addr) : Ok RX (Γ.blk scope) C gv (X.blk s H scope (compEnvC scope cl c X.env) fp) W0 where
  calm := ok.calm
  nd := ok.nd
  hN := ok.hN
  hsc := by
    show relS scope X.env.scope = relS scope Γ.sc
    rw [ok.hsc]
  kd := hb.kind
  fn := fun x h => h
  tk := takes0
  hu := ok.hu
  call := ok.call
  glob := ok.glob
  blt := ok.blt
theorem St0.blk (g0 : St0 Γ C gv K) {scope : Scope} : St0 (Γ.blk scope) C gv K := ⟨g0.ar, g0.glob⟩
/-- a clause's tests -/
def SC (RX : RXT) (Γ : Gam) (C : Ctx) (gv : Nat → V) (K : PySem.W.Frag) (W : WX) (ifs : List PySem.Expr) (f : Env → R D) : Prop := ∃ t, (∀ X, Ok RX Γ C gv X W → X.K = K → PTs X ifs t) ∧ ∀ B e σ H Q, RSt K B H e σ → Post RX K W B e σ H eqB (tst f e) Q → t σ H Q
theorem sc_nil : SC RX Γ C gv K W [] fun e => .ok (.bl true) e := ⟨tYes, fun X ok hK => pts_nil, fun B e σ H Q rs h => h true H rs .refl rfl⟩
theorem sc_one {c : PySem.Expr} {f : Env → R D} (h : ST RX Γ C gv K W c f) : SC RX Γ C gv K W [c] f := by
  obtain ⟨t, p, q⟩ := h
  exact ⟨t, fun X ok hK => pts_one (p X ok hK), q⟩
theorem own_snd {N : List Str} {vs : List Nat} : (ownOf N vs).map (·.2) = vs := by
  unfold ownOf
  rw [List.map_map]
  exact List.map_id'' (fun _ => rfl) vs
theorem no_fold {it : PySem.Expr} {env : PySem.Env} (h : isSet it = false) : ∀ x, foldedSetIterable it env x = pure x := fun x => by
  cases it <;> first | rfl | cases h
theorem compL_cons {vs : List Nat} {t : Tg} {c f : Env → R D} {d : D} {ds rest : List D} {e e2 : Env} (h : compL vs t c f (d :: ds) e = .ok rest e2) :
    ∃ eb b e3, bindT t d (wipes e vs) = some eb ∧ c eb = .ok (.bl b) e3 ∧ ((b = true ∧ ∃ y e4 ys, f e3 = .ok y e4 ∧ compL vs t c f ds e4 = .ok ys e2 ∧ rest = y :: ys) ∨ (b = false ∧ compL vs t c f ds e3 = .ok rest e2)) := by
  unfold compL at h
  cases z1 : bindT t d (wipes e vs) with
  | none => rw [z1] at h; cases h
  | some eb =>
    rw [z1] at h
    replace h : (match c eb with
      | .ok b e2 => match b with
        | .bl true => match f e2 with
          | .ok y e3 => (compL vs t c f ds e3).bind fun ys e4 => .ok (y :: ys) e4
          | _ => .no
        | .bl false => compL vs t c f ds e2
        | _ => .no
      | _ => .no) = .ok rest e2 := h
    cases z2 : c eb with
    | ok b e3 =>
      rw [z2] at h
      cases b with
      | bl b =>
        refine ⟨eb, b, e3, rfl, z2, ?_⟩
        cases b with
        | true =>
          refine .inl ⟨rfl, ?_⟩
          replace h : (match f e3 with
          | .ok y e3 => (compL vs t c f ds e3).bind fun ys e4 => .ok (y :: ys) e4
          | _ => .no) = .ok rest e2 := h
          cases z3 : f e3 with
          | ok y e4 =>
            rw [z3] at h
            replace h : ((compL vs t c f ds e4).bind fun ys e4 => .ok (y :: ys) e4) = .ok rest e2 := h
            cases z4 : compL vs t c f ds e4 with
            | ok ys e5 =>
              rw [z4] at h
              replace h : R.ok (y :: ys) e5 = .ok rest e2 := h
              cases h
              exact ⟨y, e4, ys, rfl, z4, rfl⟩
            | ex _ _ => rw [z4] at h; cases h
            | no => rw [z4] at h; cases h
          | ex _ _ => rw [z3] at h; cases h
          | no => rw [z3] at h; cases h
        | false => exact .inr ⟨rfl, h⟩
      | _ => cases h
    | ex _ _ => rw [z2] at h; cases h
    | no => rw [z2] at h; cases h
def lcF (vs : List Nat) (t : Tg) (fi : Env → R (List D)) (fc fe : Env → R D) : Env → R D := fun e => (fi e).bind fun ds e => match vs.all fun v => (getO e v).isNone with
    | true => match compL vs t fc fe ds e with
      | .ok ys e1 => if ys.length ≤ lim then .ok (.lst ys) (backs e e1 vs) else .no
      | _ => .no
    | false => .no
/-- a new list that nobody else knows -/
def FPost (RX : RXT) (K : PySem.W.Frag) (W : WX) (B : Addr → Prop) (e : Env) (σ : L2.St) (H : Hp) (r : R D) (Q : VK) : Prop := match r with
  | .ok d e' => (match d with
    | .lst ds => ∀ p us H', H p = none → RSt K (With B p) H' e' σ → Stp H e σ H' e' σ → H' p = some (.lst us) → Rps K (Of (With B p) e' σ) H' ds us → Q (.ref p) H'
    | _ => False)
  | .ex x e' => ∀ c dd H', RSt K B H' e' σ → Stp H e σ H' e' σ → RX x c dd H' → W c dd σ H'
  | .no => False
theorem FPost.shift {B : Addr → Prop} {e e1 : Env} {σ : L2.St} {H H1 : Hp} {r : R D} {Q : VK} (st : Stp H e σ H1 e1 σ) (h : FPost RX K W B e σ H r Q) : FPost RX K W B e1 σ H1 r Q := by
  cases r with
  | ok x e' =>
    cases x with
    | lst ds =>
      intro p us H' hp rs s
      refine h p us H' ?_ rs (st.trans s)
      cases z : H p with
      | none => rfl
      | some o => exact absurd hp (st.al p (by rw [z]; exact fun w => by cases w))
    | _ => exact h
  | ex x e' => exact fun y dd H' rs s rl => h y dd H' rs (st.trans s) rl
  | no => exact h
theorem FPost.bind {a b : Type} {Rel : (Addr → Prop) → Hp → a → b → Prop} {B : Addr → Prop} {e : Env} {σ : L2.St} {H : Hp} {r : R a} {f : a → Env → R D} {Q2 : VK} {Q : b → Hp → Prop} (h : FPost RX K W B e σ H (r.bind f) Q2)
    (k : ∀ x e1 y H1, r = .ok x e1 → RSt K B H1 e1 σ → Stp H e σ H1 e1 σ → Rel (Of B e1 σ) H1 x y → FPost RX K W B e1 σ H1 (f x e1) Q2 → Q y H1) : Post RX K W B e σ H Rel r Q := by
  cases r with
  | ok x e1 => exact fun y H1 rs st rl => k x e1 y H1 rfl rs st rl (FPost.shift st h)
  | ex x e1 => exact h
  | no => exact h
def SF (RX : RXT) (Γ : Gam) (C : Ctx) (gv : Nat → V) (K : PySem.W.Frag) (W : WX) (ex : PySem.Expr) (f : Env → R D) : Prop := ∃ t, (∀ X, Ok RX Γ C gv X W → X.K = K → PE X ex t ∧ ∀ (i : Nat) (y : Str) (py spos : Pos), X.N[i]? = some y → (L2.Loc X.env.scope y ∧ (X.fn y = true ∨ X.env.scope.names.lookup y = some .local)) →
    (swapsWith ex (some (.Name y py)) spos.line X.env = pure true ∧ X.env.scope.names.lookup y = some .local) ∨ swapsWith ex (some (.Name y py)) spos.line X.env = pure false → PS X (.Assign [.Name y py] ex spos) (tAsg t (gName i))) ∧
  ∀ B e σ H Q, RSt K B H e σ → FPost RX K W B e σ H (f e) Q → t σ H Q
def isLstR (r : R D) : Prop := ∀ d e, r = .ok d e → ∃ ds, d = .lst ds
theorem Post.fresh {B : Addr → Prop} {e : Env} {σ : L2.St} {H : Hp} {r : R D} {Q : VK} (rs0 : RSt K B H e σ) (hl : isLstR r) (h : PostE RX K W B e σ H r Q) : FPost RX K W B e σ H r Q := by
  cases r with
  | ok d e' =>
    obtain ⟨ds, rfl⟩ := hl d e' rfl
    intro p us H' hp rs st hp' r
    refine h (.ref p) H' rs.less st ?_
    unfold Rp
    refine ⟨p, us, rfl, fun z => ?_, hp', Rps.mono (S := fun _ => False) ⟨fun _ _ q _ => q, fun _ z => z.elim⟩ (fun _ z => z.elim) (fun b q => .inl (q.elim (fun z => .inl (.inl z)) .inr)) r⟩
    rcases z with z | z
    · obtain ⟨ws, w⟩ := rs0.bnd p z
      rw [hp] at w; cases w
    · exact rs.notOwn (.inr rfl) z
  | ex x e' => exact h
  | no => exact h
theorem SF.se {ex : PySem.Expr} {f : Env → R D} (h : SF RX Γ C gv K W ex f) (hl : ∀ e, isLstR (f e)) : SE RX Γ C gv K W ex f := by
  obtain ⟨t, p, q⟩ := h
  exact ⟨t, fun X ok hK => (p X ok hK).1, fun B e σ H Q rs h => q B e σ H Q rs (Post.fresh rs (hl e) h)⟩
theorem lcF_lst {vs : List Nat} {t : Tg} {fi : Env → R (List D)} {fc fe : Env → R D} {e : Env} : isLstR (lcF vs t fi fc fe e) := fun d e' h => by
  unfold lcF at h
  cases z1 : fi e with
  | ok ds e1 =>
    rw [z1] at h
    replace h : (match vs.all fun v => (getO e1 v).isNone with
    | true => match compL vs t fc fe ds e1 with
      | .ok ys e2 => if ys.length ≤ lim then R.ok (D.lst ys) (backs e1 e2 vs) else .no
      | _ => .no
    | false => .no) = .ok d e' := h
    split at h
    · split at h
      · split at h
        · cases h; exact ⟨_, rfl⟩
        · cases h
      · cases h
    · cases h
  | ex _ _ => rw [z1] at h; cases h
  | no => rw [z1] at h; cases h
theorem sf_lc {vs : List Nat} {t : Tg} {x tg it : PySem.Expr} {ifs : List PySem.Expr} {scope : Scope} {fi : Env → R (List D)} {fc fe : Env → R D}
    (hb : blkC Γ.N Γ.sc scope (ownOf Γ.N vs) = true) (hset : isSet it = false) (hts : (t.slots.all fun i => vs.contains i) = true) (hi : SI RX Γ C gv K W tg it fi) (hg : SG RX (Γ.blk scope) C gv K W0 t tg)
    (hc : SC RX (Γ.blk scope) C gv K W0 ifs fc) (he : SE RX (Γ.blk scope) C gv K W0 x fe) : SF RX Γ C gv K W (.ListComp x [⟨tg, it, ifs, 0⟩] scope pos) (lcF vs t fi fc fe) := by
  obtain ⟨wi, pi, qi⟩ := hi
  obtain ⟨g, pg, qg⟩ := hg
  obtain ⟨tt, pt, qt⟩ := hc
  obtain ⟨te, pe, qe⟩ := he
  have bk := blkOk_by hb
  refine ⟨tLc wi g tt te ((ownOf Γ.N vs).map (·.2)), fun X ok hK => ?_, fun B e σ H Q rs h => ?_⟩
  · have pc := pe_lc (pos := pos) ok.calm (by rw [ok.hN]; exact ok.nd) (pi X ok hK) (by rw [ok.hN, ok.hsc]; exact bk) (fun s H c cl fp => pg _ (ok.blk bk s H c cl fp) hK) (fun s H c cl fp => pt _ (ok.blk bk s H c cl fp) hK) (fun s H c cl fp => pe _ (ok.blk bk s H c cl fp) hK) (no_fold hset)
    refine ⟨pc, fun i y py spos hy hl hsw => ?_⟩
    rcases hsw with ⟨hsw, hyl⟩ | hsw
    · exact ps_setLc ok.calm (by rw [ok.hN]; exact ok.nd) hy hyl hsw (pi X ok hK) (by rw [ok.hN, ok.hsc]; exact bk) (fun s H c cl fp => pg _ (ok.blk bk s H c cl fp) hK) (fun s H c cl fp => pt _ (ok.blk bk s H c cl fp) hK) (fun s H c cl fp => pe _ (ok.blk bk s H c cl fp) hK) (no_fold hset)
    · exact ps_set (by rw [ok.hN]; exact ok.nd) hy hl.1 pc hsw hl.2
  rw [own_snd]
  have h : FPost RX K W B e σ H (lcF vs t fi fc fe e) Q := h
  refine qi B e σ H _ rs (FPost.bind h fun ds e1 J H1 _ rs1 st1 w1 h1 => ?_)
  cases ha : vs.all fun v => (getO e1 v).isNone with
  | false => rw [ha] at h1; exact h1.elim
  | true =>
  rw [ha] at h1
  replace h1 : FPost RX K W B e1 σ H1 (match compL vs t fc fe ds e1 with
      | .ok ys e2 => if ys.length ≤ lim then .ok (.lst ys) (backs e1 e2 vs) else .no
      | _ => .no) Q := h1
  cases hcl : compL vs t fc fe ds e1 with
  | ex _ _ => rw [hcl] at h1; exact h1.elim
  | no => rw [hcl] at h1; exact h1.elim
  | ok ys e2 =>
  rw [hcl] at h1
  replace h1 : FPost RX K W B e1 σ H1 (if ys.length ≤ lim then .ok (.lst ys) (backs e1 e2 vs) else .no) Q := h1
  split at h1
  case isFalse => exact h1.elim
  case isTrue hl =>
  have hno : ∀ i ∈ vs, ∀ ds, e1[i]? ≠ some (some (Sl.own ds)) := fun i hi ds z => by
    have := List.all_eq_true.mp ha i hi
    unfold getO at this
    rw [z] at this
    cases this
  have hts : ∀ i, i ∈ t.slots → i ∈ vs := fun i hi => List.contains_iff_mem.mp (List.all_eq_true.mp hts i hi)
  intro D hD
  refine ⟨fun i m H => i + m = ds.length ∧ ∃ acc done rest ec, H D = some (.lst acc) ∧ RSt K (With B D) H (wipes ec vs) (wipe σ vs) ∧ Stp H1 (wipes e1 vs) (wipe σ vs) H (wipes ec vs) (wipe σ vs) ∧
    Rps K (Of (With B D) (wipes ec vs) (wipe σ vs)) H done acc ∧ compL vs t fc fe (ds.drop i) ec = .ok rest e2 ∧ ys = done ++ rest, ⟨ds.length, by omega, [], [], ys, e1, upd_same, (rs1.with_ hD).wipes vs, ((rs1.wipes vs).laid hD).2, .nil, hcl, rfl⟩, ?_⟩
  rintro i m H2 ⟨him, acc, done, rest, ec, hacc, rs2, st2, rd, hrest, hys⟩
  have wk : Wk K (Of (With B D) (wipes ec vs) (wipe σ vs)) H2 ds J := Wk.mono (S := OwnAt (wipes e1 vs) (wipe σ vs)) ⟨st2.fr, fun a z => (rs1.wipes vs).ls z⟩ (fun a z => .inr (own_wipes z)) (fun a z => by
    rcases z with (z | z) | z
    · exact .inl (.inl z)
    · exact .inr (by rw [z]; exact hD)
    · exact (st2.sub a z).imp (fun w => .inr (own_wipes w)) id) w1
  have hdl := rd.len
  by_cases hm : i < ds.length
  · have hd : ds[i]? = some ds[i] := List.getElem?_eq_getElem hm
    rw [List.drop_eq_getElem_cons hm] at hrest
    obtain ⟨eb, b, e3, hb1, hb2, hb3⟩ := compL_cons hrest
    refine .inr ⟨(wk.go hd).1, fun H' => i + 1 + (m - 1) = ds.length ∧ ∃ acc done rest ec, H' D = some (.lst acc) ∧ RSt K (With B D) H' (wipes ec vs) (wipe σ vs) ∧ Stp H1 (wipes e1 vs) (wipe σ vs) H' (wipes ec vs) (wipe σ vs) ∧
      Rps K (Of (With B D) (wipes ec vs) (wipe σ vs)) H' done acc ∧ compL vs t fc fe (ds.drop (i + 1)) ec = .ok rest e2 ∧ ys = done ++ rest, fun H' w => ⟨m - 1, by omega, w⟩, fun xv H' hy => ?_⟩
    obtain ⟨rfl, rx⟩ := (wk.go hd).2 xv H' hy
    refine qg (With B D) (wipes ec vs) (wipe σ vs) H' ds[i] xv _ rs2 rx ?_
    rw [hb1]
    intro σ2 rs3 st3 o3
    have hw : wipe σ2 vs = wipe σ vs := by
      refine wipe_eq ?_ fun j hj => ?_
      · have q1 := rs3.len
        have q2 := rs2.len
        have q3 := bindT_len hb1
        rw [wipe_length] at q2
        omega
      · rw [o3 j fun z => hj (hts j z), wipe_out hj]
    refine ⟨hw, qt (With B D) eb σ2 H' _ rs3 ?_⟩
    have htst : tst fc eb = .ok b e3 := by
      unfold tst
      rw [hb2]
      rfl
    rw [htst]
    intro b' H3 rs4 st4 hbb
    have hbb : b = b' := hbb
    subst hbb
    rcases hb3 with ⟨rfl, y, e4, ys', hf, hr2, rfl⟩ | ⟨rfl, hr2⟩
    · rw [if_pos rfl]
      refine qe (With B D) e3 σ2 H3 _ rs4 ?_
      rw [hf]
      intro yv H4 rs5 st5 ry
      have k3 : H3 D = some (.lst acc) := st4.fr D _ hacc (rs3.notOwn (.inr rfl))
      have k4 : H4 D = some (.lst acc) := st5.fr D _ k3 (rs4.notOwn (.inr rfl))
      have rd4 := rs4.keeps st5 (rs3.keeps st4 (rs2.keeps st3 rd))
      have rn : Rps K (Of (With B D) e4 σ2) H4 (done ++ [y]) (acc ++ [yv]) := rd4.app (.cons ry .nil)
      refine ⟨acc, k4, ?_, by omega, acc ++ [yv], done ++ [y], ys', e4, upd_same, ?_, ?_, ?_, hr2, by rw [hys]; simp⟩
      · have : ys.length = done.length + (ys'.length + 1) := by rw [hys, List.length_append, List.length_cons]
        have := lim_line
        omega
      · have := (rs5.other (us := acc ++ [yv]) (.inr rfl)).wipes vs
        rw [hw] at this
        exact this
      · have s5 := ((st2.trans st3).trans st4).trans st5
        refine ⟨fun a o q n => ?_, fun a q => ?_, fun a q => s5.sub a (own_wipes (vs := vs) (by rw [hw]; exact q))⟩
        · rw [upd_ne (ne_of_none q hD)]
          exact s5.fr a o q n
        · by_cases hb : a = D
          · rw [hb, upd_same]
            exact fun z => by cases z
          · rw [upd_ne hb]
            exact s5.al a q
      · have := (Rps.other rs5 (us := acc ++ [yv]) (.inr rfl) rn).wiped vs
        rw [hw] at this
        exact this
    · rw [if_neg (fun z => by cases z)]
      have k3 : H3 D = some (.lst acc) := st4.fr D _ hacc (rs3.notOwn (.inr rfl))
      have rd4 := rs3.keeps st4 (rs2.keeps st3 rd)
      refine ⟨by omega, acc, done, rest, e3, k3, ?_, ?_, ?_, hr2, hys⟩
      · have := rs4.wipes vs
        rw [hw] at this
        exact this
      · have s5 := (st2.trans st3).trans st4
        exact ⟨s5.fr, s5.al, fun a q => s5.sub a (own_wipes (vs := vs) (by rw [hw]; exact q))⟩
      · have := rd4.wiped vs
        rw [hw] at this
        exact this
  · refine .inl ⟨wk.stop (by omega), ?_⟩
    rw [List.drop_eq_nil_of_le (by omega)] at hrest
    have hrest : R.ok [] ec = .ok rest e2 := hrest
    cases hrest
    rw [List.append_nil] at hys
    subst hys
    obtain ⟨r1, r2, r3⟩ := st_unwipe rs1 hD hno rs2 st2
    exact h1 D acc H2 hD r1 r2 hacc (Rps.mono (S := fun _ => False) ⟨fun _ _ q _ => q, fun _ z => z.elim⟩ (fun _ z => z.elim) (fun b q => .inl (r3 b q)) rd)
theorem compL2_cons {vs vs1 : List Nat} {t t1 : Tg} {c c1 f : Env → R D} {s1 : Env → R (List D)} {d : D} {ds rest : List D} {e e2 : Env} (h : compL2 vs t c s1 vs1 t1 c1 f (d :: ds) e = .ok rest e2) :
    ∃ eb b e3, bindT t d (wipes e vs) = some eb ∧ c eb = .ok (.bl b) e3 ∧ ((b = true ∧ ∃ ds1 e4 ys1 e5 ys, s1 e3 = .ok ds1 e4 ∧ compL vs1 t1 c1 f ds1 e4 = .ok ys1 e5 ∧ compL2 vs t c s1 vs1 t1 c1 f ds e5 = .ok ys e2 ∧ rest = ys1 ++ ys) ∨ (b = false ∧ compL2 vs t c s1 vs1 t1 c1 f ds e3 = .ok rest e2)) := by
  unfold compL2 at h
  cases z1 : bindT t d (wipes e vs) with
  | none => rw [z1] at h; cases h
  | some eb =>
    rw [z1] at h
    replace h : (match c eb with
      | .ok b e2 => match b with
        | .bl true => match s1 e2 with
          | .ok ds1 e3 => match compL vs1 t1 c1 f ds1 e3 with
            | .ok ys1 e4 => (compL2 vs t c s1 vs1 t1 c1 f ds e4).bind fun ys e5 => .ok (ys1 ++ ys) e5
            | _ => .no
          | _ => .no
        | .bl false => compL2 vs t c s1 vs1 t1 c1 f ds e2
        | _ => .no
      | _ => .no) = .ok rest e2 := h
    cases z2 : c eb with
    | ok b e3 =>
      rw [z2] at h
      cases b with
      | bl b =>
        refine ⟨eb, b, e3, rfl, z2, ?_⟩
        cases b with
        | true =>
          refine .inl ⟨rfl, ?_⟩
          replace h : (match s1 e3 with
          | .ok ds1 e3 => match compL vs1 t1 c1 f ds1 e3 with
            | .ok ys1 e4 => (compL2 vs t c s1 vs1 t1 c1 f ds e4).bind fun ys e5 => .ok (ys1 ++ ys) e5
            | _ => .no
          | _ => .no) = .ok rest e2 := h
          cases z3 : s1 e3 with
          | ok ds1 e4 =>
            rw [z3] at h
            replace h : (match compL vs1 t1 c1 f ds1 e4 with
            | .ok ys1 e4 => (compL2 vs t c s1 vs1 t1 c1 f ds e4).bind fun ys e5 => .ok (ys1 ++ ys) e5
            | _ => .no) = .ok rest e2 := h
            cases z4 : compL vs1 t1 c1 f ds1 e4 with
            | ok ys1 e5 =>
              rw [z4] at h
              replace h : ((compL2 vs t c s1 vs1 t1 c1 f ds e5).bind fun ys e5 => .ok (ys1 ++ ys) e5) = .ok rest e2 := h
              cases z5 : compL2 vs t c s1 vs1 t1 c1 f ds e5 with
              | ok ys e6 =>
                rw [z5] at h
                replace h : R.ok (ys1 ++ ys) e6 = .ok rest e2 := h
                cases h
                exact ⟨ds1, e4, ys1, e5, ys, rfl, z4, z5, rfl⟩
              | ex _ _ => rw [z5] at h; cases h
              | no => rw [z5] at h; cases h
            | ex _ _ => rw [z4] at h; cases h
            | no => rw [z4] at h; cases h
          | ex _ _ => rw [z3] at h; cases h
          | no => rw [z3] at h; cases h
        | false => exact .inr ⟨rfl, h⟩
      | _ => cases h
    | ex _ _ => rw [z2] at h; cases h
    | no => rw [z2] at h; cases h
def lc2F (vs : List Nat) (t : Tg) (fi : Env → R (List D)) (fc : Env → R D) (f1 : Env → R (List D)) (vs1 : List Nat) (t1 : Tg) (fc1 fe : Env → R D) : Env → R D := fun e => (fi e).bind fun ds e => match vs.all fun v => (getO e v).isNone with
    | true => match compL2 vs t fc f1 vs1 t1 fc1 fe ds e with
      | .ok ys e1 => if ys.length ≤ lim then .ok (.lst ys) (backs e e1 vs) else .no
      | _ => .no
    | false => .no
theorem lc2F_lst {vs vs1 : List Nat} {t t1 : Tg} {fi f1 : Env → R (List D)} {fc fc1 fe : Env → R D} {e : Env} : isLstR (lc2F vs t fi fc f1 vs1 t1 fc1 fe e) := fun d e' h => by
  unfold lc2F at h
  cases z1 : fi e with
  | ok ds e1 =>
    rw [z1] at h
    replace h : (match vs.all fun v => (getO e1 v).isNone with
    | true => match compL2 vs t fc f1 vs1 t1 fc1 fe ds e1 with
      | .ok ys e2 => if ys.length ≤ lim then R.ok (D.lst ys) (backs e1 e2 vs) else .no
      | _ => .no
    | false => .no) = .ok d e' := h
    split at h
    · split at h
      · split at h
        · cases h; exact ⟨_, rfl⟩
        · cases h
      · cases h
    · cases h
  | ex _ _ => rw [z1] at h; cases h
  | no => rw [z1] at h; cases h
theorem wipes_wipes {e : Env} {vs vs1 : List Nat} (hv : ∀ i, i ∈ vs1 → i ∈ vs) : wipes (wipes e vs1) vs = wipes e vs := by
  refine List.ext_getElem? fun j => ?_
  have hl : (wipes (wipes e vs1) vs).length = (wipes e vs).length := by rw [wipes_len, wipes_len, wipes_len]
  by_cases hj : j ∈ vs
  · by_cases hlt : j < (wipes e vs).length
    · have a1 := wipes_in (e := wipes e vs1) hj
      have a2 := wipes_in (e := e) hj
      have s1 : (wipes (wipes e vs1) vs)[j]? ≠ none := by rw [List.getElem?_eq_getElem (by omega)]; exact fun z => by cases z
      have s2 : (wipes e vs)[j]? ≠ none := by rw [List.getElem?_eq_getElem hlt]; exact fun z => by cases z
      rcases a1 with a1 | a1
      · exact absurd a1 s1
      · rcases a2 with a2 | a2
        · exact absurd a2 s2
        · rw [a1, a2]
    · rw [List.getElem?_eq_none (by omega), List.getElem?_eq_none (by omega)]
  · rw [wipes_out hj, wipes_out hj, wipes_out fun z => hj (hv j z)]
theorem wipe_wipe {σ : L2.St} {vs vs1 : List Nat} (hv : ∀ i, i ∈ vs1 → i ∈ vs) : wipe (wipe σ vs1) vs = wipe σ vs :=
  wipe_eq (by rw [wipe_length]) fun j hj => by rw [wipe_out fun z => hj (hv j z)]
/-- the loop of the second clause -/
theorem inner_ok {B : Addr → Prop} {D : Addr} {vs1 : List Nat} {t1 : Tg} {fc1 fe : Env → R Ev.D} {g1 : TG} {tt1 : TT} {te : TE} {ds1 ys1 done0 : List Ev.D} {E1 e3 e4 : Env} {S1 σ2 : L2.St} {H1 H4 : Hp} {acc0 : List V} {J1 : It} {Nx : Hp → Prop}
    (qg1 : ∀ B e σ H d v (Q : L2.St → Hp → Prop), RSt K B H e σ → Rp K (Of B e σ) H d v → (match bindT t1 d e with
      | some e' => ∀ σ', RSt K B H e' σ' → Stp H e σ H e' σ' → (∀ j, j ∉ t1.slots → σ'[j]? = σ[j]?) → Q σ' H
      | none => False) → g1 v σ H Q)
    (qt1 : ∀ B e σ H Q, RSt K B H e σ → Post RX K W0 B e σ H eqB (tst fc1 e) Q → tt1 σ H Q) (qe : ∀ B e σ H Q, RSt K B H e σ → PostE RX K W0 B e σ H (fe e) Q → te σ H Q)
    (hts : ∀ i, i ∈ t1.slots → i ∈ vs1) (hD : H1 D = none) (s0 : Stp H1 E1 S1 H4 e3 σ2) (rs : RSt K (With B D) H4 e3 σ2) (hacc0 : H4 D = some (.lst acc0)) (rd0 : Rps K (Of (With B D) e3 σ2) H4 done0 acc0) (w1 : Wk K (Of (With B D) e3 σ2) H4 ds1 J1)
    (hcl : compL vs1 t1 fc1 fe ds1 e3 = .ok ys1 e4) (hlim : (done0 ++ ys1).length ≤ lim)
    (fin : ∀ H acc, H D = some (.lst acc) → RSt K (With B D) H (wipes e4 vs1) (wipe σ2 vs1) → Stp H1 E1 S1 H (wipes e4 vs1) (wipe σ2 vs1) → Rps K (Of (With B D) (wipes e4 vs1) (wipe σ2 vs1)) H (done0 ++ ys1) acc → Nx H) :
    ∃ W1 : Nat → Nat → Hp → Prop, (∃ m, W1 0 m H4) ∧ ∀ j k H, W1 j k H →
      (J1.stop j H ∧ Nx H) ∨ (J1.go j H ∧ ∃ Nx1 : Hp → Prop, (∀ H', Nx1 H' → ∃ k', k' < k ∧ W1 (j + 1) k' H') ∧ ∀ x H', J1.yld j H x H' → g1 x (wipe σ2 vs1) H' fun σ3 H5 => wipe σ3 vs1 = wipe σ2 vs1 ∧ tt1 σ3 H5 fun b H6 =>
        if b = true then te σ3 H6 fun y H7 => ∃ acc, H7 D = some (.lst acc) ∧ acc.length < sizeLine ∧ Nx1 (upd H7 D (.lst (acc ++ [y]))) else Nx1 H6) := by
  have nD : ¬ OwnAt (wipes e3 vs1) (wipe σ2 vs1) D := (rs.wipes vs1).notOwn (.inr rfl)
  have nD3 : H4 D ≠ none := by rw [hacc0]; exact fun z => by cases z
  refine ⟨fun j k H => j + k = ds1.length ∧ ∃ acc done rest ec, H D = some (.lst acc) ∧ RSt K (With B D) H (wipes ec vs1) (wipe σ2 vs1) ∧ Stp H1 E1 S1 H (wipes ec vs1) (wipe σ2 vs1) ∧
    (∀ a o, H4 a = some o → ¬ OwnAt (wipes e3 vs1) (wipe σ2 vs1) a → a ≠ D → H a = some o) ∧ (∀ a, H4 a ≠ none → H a ≠ none) ∧ (∀ a, OwnAt (wipes ec vs1) (wipe σ2 vs1) a → OwnAt (wipes e3 vs1) (wipe σ2 vs1) a ∨ H4 a = none) ∧
    Rps K (Of (With B D) (wipes ec vs1) (wipe σ2 vs1)) H done acc ∧ compL vs1 t1 fc1 fe (ds1.drop j) ec = .ok rest e4 ∧ done0 ++ ys1 = done ++ rest, ⟨ds1.length, by omega, acc0, done0, ys1, e3, hacc0, rs.wipes vs1, ⟨s0.fr, s0.al, fun a q => s0.sub a (own_wipes q)⟩, fun a o q _ _ => q, fun a q => q, fun a q => .inl q, rd0.wiped vs1, hcl, rfl⟩, ?_⟩
  rintro j k H2 ⟨him, acc, done, rest, ec, hacc, rs2, st2, fr2, al2, sub2, rd, hrest, hys⟩
  have wk : Wk K (Of (With B D) (wipes ec vs1) (wipe σ2 vs1)) H2 ds1 J1 := Wk.mono (S := fun a => OwnAt (wipes e3 vs1) (wipe σ2 vs1) a ∨ a = D) ⟨fun a o q n => fr2 a o q (fun z => n (.inl z)) fun z => n (.inr z), fun a z => by
      rcases z with z | z
      · exact (rs.wipes vs1).ls z
      · rw [z]; exact ⟨_, hacc0⟩⟩ (fun a z => by
      rcases z with z | z
      · exact .inr (own_wipes z)
      · exact .inl (.inr z)) (fun a z => by
    rcases z with z | z
    · exact .inl (.inl z)
    · exact (sub2 a z).imp (fun w => .inr (own_wipes w)) id) w1
  have hdl := rd.len
  by_cases hm : j < ds1.length
  · have hd : ds1[j]? = some ds1[j] := List.getElem?_eq_getElem hm
    rw [List.drop_eq_getElem_cons hm] at hrest
    obtain ⟨eb, b, e3', hb1, hb2, hb3⟩ := compL_cons hrest
    refine .inr ⟨(wk.go hd).1, fun H' => j + 1 + (k - 1) = ds1.length ∧ ∃ acc done rest ec, H' D = some (.lst acc) ∧ RSt K (With B D) H' (wipes ec vs1) (wipe σ2 vs1) ∧ Stp H1 E1 S1 H' (wipes ec vs1) (wipe σ2 vs1) ∧
      (∀ a o, H4 a = some o → ¬ OwnAt (wipes e3 vs1) (wipe σ2 vs1) a → a ≠ D → H' a = some o) ∧ (∀ a, H4 a ≠ none → H' a ≠ none) ∧ (∀ a, OwnAt (wipes ec vs1) (wipe σ2 vs1) a → OwnAt (wipes e3 vs1) (wipe σ2 vs1) a ∨ H4 a = none) ∧
      Rps K (Of (With B D) (wipes ec vs1) (wipe σ2 vs1)) H' done acc ∧ compL vs1 t1 fc1 fe (ds1.drop (j + 1)) ec = .ok rest e4 ∧ done0 ++ ys1 = done ++ rest, fun H' w => ⟨k - 1, by omega, w⟩, fun xv H' hy => ?_⟩
    obtain ⟨rfl, rx⟩ := (wk.go hd).2 xv H' hy
    refine qg1 (With B D) (wipes ec vs1) (wipe σ2 vs1) H' ds1[j] xv _ rs2 rx ?_
    rw [hb1]
    intro σ3 rs3 st3 o3
    have hw : wipe σ3 vs1 = wipe σ2 vs1 := by
      refine wipe_eq ?_ fun i hi => ?_
      · have q1 := rs3.len
        have q2 := rs2.len
        have q3 := bindT_len hb1
        rw [wipe_length] at q2
        omega
      · rw [o3 i fun z => hi (hts i z), wipe_out hi]
    refine ⟨hw, qt1 (With B D) eb σ3 H' _ rs3 ?_⟩
    have htst : tst fc1 eb = .ok b e3' := by
      unfold tst
      rw [hb2]
      rfl
    rw [htst]
    intro b' H3 rs4 st4 hbb
    have hbb : b = b' := hbb
    subst hbb
    -- what a chain of steps keeps
    have chain : ∀ {Hx : Hp} {ex : Env}, Stp H' (wipes ec vs1) (wipe σ2 vs1) Hx ex σ3 → (∀ a o, H4 a = some o → ¬ OwnAt (wipes e3 vs1) (wipe σ2 vs1) a → a ≠ D → Hx a = some o) ∧ (∀ a, H4 a ≠ none → Hx a ≠ none) ∧ (∀ a, OwnAt (wipes ex vs1) (wipe σ2 vs1) a → OwnAt (wipes e3 vs1) (wipe σ2 vs1) a ∨ H4 a = none) := fun {Hx ex} s => by
      refine ⟨fun a o q n nd => ?_, fun a q => s.al a (al2 a q), fun a q => ?_⟩
      · refine s.fr a o (fr2 a o q n nd) fun z => ?_
        rcases sub2 a z with w | w
        · exact n w
        · rw [w] at q; cases q
      · rcases s.sub a (own_wipes (vs := vs1) (by rw [hw]; exact q)) with w | w
        · exact sub2 a w
        · refine .inr ?_
          cases z : H4 a with
          | none => rfl
          | some o => exact absurd w (al2 a (by rw [z]; exact fun w => by cases w))
    rcases hb3 with ⟨rfl, y, e5, ys', hf, hr2, rfl⟩ | ⟨rfl, hr2⟩
    · rw [if_pos rfl]
      refine qe (With B D) e3' σ3 H3 _ rs4 ?_
      rw [hf]
      intro yv H7 rs5 st5 ry
      have k3 : H3 D = some (.lst acc) := st4.fr D _ hacc (rs3.notOwn (.inr rfl))
      have k4 : H7 D = some (.lst acc) := st5.fr D _ k3 (rs4.notOwn (.inr rfl))
      have rd4 := rs4.keeps st5 (rs3.keeps st4 (rs2.keeps st3 rd))
      have rn : Rps K (Of (With B D) e5 σ3) H7 (done ++ [y]) (acc ++ [yv]) := rd4.app (.cons ry .nil)
      obtain ⟨c1, c2, c3⟩ := chain ((st3.trans st4).trans st5)
      refine ⟨acc, k4, ?_, by omega, acc ++ [yv], done ++ [y], ys', e5, upd_same, ?_, ?_, ?_, ?_, c3, ?_, hr2, by rw [hys]; simp⟩
      · have : (done0 ++ ys1).length = done.length + (ys'.length + 1) := by rw [hys, List.length_append, List.length_cons]
        have := lim_line
        omega
      · have := (rs5.other (us := acc ++ [yv]) (.inr rfl)).wipes vs1
        rw [hw] at this
        exact this
      · have s5 := ((st2.trans st3).trans st4).trans st5
        refine ⟨fun a o q n => ?_, fun a q => ?_, fun a q => s5.sub a (own_wipes (vs := vs1) (by rw [hw]; exact q))⟩
        · rw [upd_ne (ne_of_none q hD)]
          exact s5.fr a o q n
        · by_cases hb : a = D
          · rw [hb, upd_same]
            exact fun z => by cases z
          · rw [upd_ne hb]
            exact s5.al a q
      · intro a o q n nd
        rw [upd_ne nd]
        exact c1 a o q n nd
      · intro a q
        by_cases hb : a = D
        · rw [hb, upd_same]
          exact fun z => by cases z
        · rw [upd_ne hb]
          exact c2 a q
      · have := (Rps.other rs5 (us := acc ++ [yv]) (.inr rfl) rn).wiped vs1
        rw [hw] at this
        exact this
    · rw [if_neg (fun z => by cases z)]
      have k3 : H3 D = some (.lst acc) := st4.fr D _ hacc (rs3.notOwn (.inr rfl))
      have rd4 := rs3.keeps st4 (rs2.keeps st3 rd)
      obtain ⟨c1, c2, c3⟩ := chain (st3.trans st4)
      refine ⟨by omega, acc, done, rest, e3', k3, ?_, ?_, c1, c2, c3, ?_, hr2, hys⟩
      · have := rs4.wipes vs1
        rw [hw] at this
        exact this
      · have s5 := (st2.trans st3).trans st4
        exact ⟨s5.fr, s5.al, fun a q => s5.sub a (own_wipes (vs := vs1) (by rw [hw]; exact q))⟩
      · have := rd4.wiped vs1
        rw [hw] at this
        exact this
  · refine .inl ⟨wk.stop (by omega), ?_⟩
    rw [List.drop_eq_nil_of_le (by omega)] at hrest
    have hrest : R.ok [] ec = .ok rest e4 := hrest
    cases hrest
    rw [List.append_nil] at hys
    rw [← hys] at rd
    exact fin H2 acc hacc rs2 st2 rd
theorem sf_lc2 {vs vs1 : List Nat} {t t1 : Tg} {x tg it tg1 it1 : PySem.Expr} {ifs ifs1 : List PySem.Expr} {scope : Scope} {fi f1 : Env → R (List D)} {fc fc1 fe : Env → R D}
    (hb : blkC Γ.N Γ.sc scope (ownOf Γ.N vs) = true) (hset : isSet it = false) (hset1 : isSet it1 = false) (hts : (t.slots.all fun i => vs.contains i) = true) (hts1 : (t1.slots.all fun i => vs1.contains i) = true) (hvv : (vs1.all fun i => vs.contains i) = true) (hi : SI RX Γ C gv K W tg it fi) (hg : SG RX (Γ.blk scope) C gv K W0 t tg)
    (hc : SC RX (Γ.blk scope) C gv K W0 ifs fc) (hi1 : SI RX (Γ.blk scope) C gv K W0 tg1 it1 f1) (hg1 : SG RX (Γ.blk scope) C gv K W0 t1 tg1) (hc1 : SC RX (Γ.blk scope) C gv K W0 ifs1 fc1) (he : SE RX (Γ.blk scope) C gv K W0 x fe) : SF RX Γ C gv K W (.ListComp x [⟨tg, it, ifs, 0⟩, ⟨tg1, it1, ifs1, 0⟩] scope pos) (lc2F vs t fi fc f1 vs1 t1 fc1 fe) := by
  obtain ⟨wi, pi, qi⟩ := hi
  obtain ⟨g, pg, qg⟩ := hg
  obtain ⟨tt, pt, qt⟩ := hc
  obtain ⟨wi1, pi1, qi1⟩ := hi1
  obtain ⟨g1, pg1, qg1⟩ := hg1
  obtain ⟨tt1, pt1, qt1⟩ := hc1
  obtain ⟨te, pe, qe⟩ := he
  have bk := blkOk_by hb
  have hv : ∀ i, i ∈ vs1 → i ∈ vs := fun i hi => List.contains_iff_mem.mp (List.all_eq_true.mp hvv i hi)
  have hts1 : ∀ i, i ∈ t1.slots → i ∈ vs1 := fun i hi => List.contains_iff_mem.mp (List.all_eq_true.mp hts1 i hi)
  refine ⟨tLc2 wi g tt wi1 g1 tt1 te ((ownOf Γ.N vs).map (·.2)) vs1, fun X ok hK => ?_, fun B e σ H Q rs h => ?_⟩
  · have hv' : ∀ i ∈ vs1, i ∈ (ownOf Γ.N vs).map (·.2) := fun i hi => by rw [own_snd]; exact hv i hi
    have pc := pe_lc2 (pos := pos) ok.calm (by rw [ok.hN]; exact ok.nd) (pi X ok hK) (by rw [ok.hN, ok.hsc]; exact bk) hv' (fun s H c cl fp => pg _ (ok.blk bk s H c cl fp) hK) (fun s H c cl fp => pt _ (ok.blk bk s H c cl fp) hK)
      (fun s H c cl fp => pi1 _ (ok.blk bk s H c cl fp) hK) (fun s H c cl fp => pg1 _ (ok.blk bk s H c cl fp) hK) (fun s H c cl fp => pt1 _ (ok.blk bk s H c cl fp) hK) (fun s H c cl fp => pe _ (ok.blk bk s H c cl fp) hK) (no_fold hset) (fun env => no_fold hset1)
    refine ⟨pc, fun i y py spos hy hl hsw => ?_⟩
    rcases hsw with ⟨hsw, hyl⟩ | hsw
    · exact ps_setLc2 ok.calm (by rw [ok.hN]; exact ok.nd) hy hyl hsw (pi X ok hK) (by rw [ok.hN, ok.hsc]; exact bk) hv' (fun s H c cl fp => pg _ (ok.blk bk s H c cl fp) hK) (fun s H c cl fp => pt _ (ok.blk bk s H c cl fp) hK)
        (fun s H c cl fp => pi1 _ (ok.blk bk s H c cl fp) hK) (fun s H c cl fp => pg1 _ (ok.blk bk s H c cl fp) hK) (fun s H c cl fp => pt1 _ (ok.blk bk s H c cl fp) hK) (fun s H c cl fp => pe _ (ok.blk bk s H c cl fp) hK) (no_fold hset) (fun env => no_fold hset1)
    · exact ps_set (by rw [ok.hN]; exact ok.nd) hy hl.1 pc hsw hl.2
  rw [own_snd]
  have h : FPost RX K W B e σ H (lc2F vs t fi fc f1 vs1 t1 fc1 fe e) Q := h
  refine qi B e σ H _ rs (FPost.bind h fun ds e1 J H1 _ rs1 st1 w1 h1 => ?_)
  cases ha : vs.all fun v => (getO e1 v).isNone with
  | false => rw [ha] at h1; exact h1.elim
  | true =>
  rw [ha] at h1
  replace h1 : FPost RX K W B e1 σ H1 (match compL2 vs t fc f1 vs1 t1 fc1 fe ds e1 with
      | .ok ys e2 => if ys.length ≤ lim then .ok (.lst ys) (backs e1 e2 vs) else .no
      | _ => .no) Q := h1
  cases hcl : compL2 vs t fc f1 vs1 t1 fc1 fe ds e1 with
  | ex _ _ => rw [hcl] at h1; exact h1.elim
  | no => rw [hcl] at h1; exact h1.elim
  | ok ys e2 =>
  rw [hcl] at h1
  replace h1 : FPost RX K W B e1 σ H1 (if ys.length ≤ lim then .ok (.lst ys) (backs e1 e2 vs) else .no) Q := h1
  split at h1
  case isFalse => exact h1.elim
  case isTrue hl =>
  have hno : ∀ i ∈ vs, ∀ ds, e1[i]? ≠ some (some (Sl.own ds)) := fun i hi ds z => by
    have := List.all_eq_true.mp ha i hi
    unfold getO at this
    rw [z] at this
    cases this
  have hts : ∀ i, i ∈ t.slots → i ∈ vs := fun i hi => List.contains_iff_mem.mp (List.all_eq_true.mp hts i hi)
  intro D hD
  refine ⟨fun i m H => i + m = ds.length ∧ ∃ acc done rest ec, H D = some (.lst acc) ∧ RSt K (With B D) H (wipes ec vs) (wipe σ vs) ∧ Stp H1 (wipes e1 vs) (wipe σ vs) H (wipes ec vs) (wipe σ vs) ∧
    Rps K (Of (With B D) (wipes ec vs) (wipe σ vs)) H done acc ∧ compL2 vs t fc f1 vs1 t1 fc1 fe (ds.drop i) ec = .ok rest e2 ∧ ys = done ++ rest, ⟨ds.length, by omega, [], [], ys, e1, upd_same, (rs1.with_ hD).wipes vs, ((rs1.wipes vs).laid hD).2, .nil, hcl, rfl⟩, ?_⟩
  rintro i m H2 ⟨him, acc, done, rest, ec, hacc, rs2, st2, rd, hrest, hys⟩
  have wk : Wk K (Of (With B D) (wipes ec vs) (wipe σ vs)) H2 ds J := Wk.mono (S := OwnAt (wipes e1 vs) (wipe σ vs)) ⟨st2.fr, fun a z => (rs1.wipes vs).ls z⟩ (fun a z => .inr (own_wipes z)) (fun a z => by
    rcases z with (z | z) | z
    · exact .inl (.inl z)
    · exact .inr (by rw [z]; exact hD)
    · exact (st2.sub a z).imp (fun w => .inr (own_wipes w)) id) w1
  have hdl := rd.len
  by_cases hm : i < ds.length
  · have hd : ds[i]? = some ds[i] := List.getElem?_eq_getElem hm
    rw [List.drop_eq_getElem_cons hm] at hrest
    obtain ⟨eb, b, e3, hb1, hb2, hb3⟩ := compL2_cons hrest
    refine .inr ⟨(wk.go hd).1, fun H' => i + 1 + (m - 1) = ds.length ∧ ∃ acc done rest ec, H' D = some (.lst acc) ∧ RSt K (With B D) H' (wipes ec vs) (wipe σ vs) ∧ Stp H1 (wipes e1 vs) (wipe σ vs) H' (wipes ec vs) (wipe σ vs) ∧
      Rps K (Of (With B D) (wipes ec vs) (wipe σ vs)) H' done acc ∧ compL2 vs t fc f1 vs1 t1 fc1 fe (ds.drop (i + 1)) ec = .ok rest e2 ∧ ys = done ++ rest, fun H' w => ⟨m - 1, by omega, w⟩, fun xv H' hy => ?_⟩
    obtain ⟨rfl, rx⟩ := (wk.go hd).2 xv H' hy
    refine qg (With B D) (wipes ec vs) (wipe σ vs) H' ds[i] xv _ rs2 rx ?_
    rw [hb1]
    intro σ2 rs3 st3 o3
    have hw : wipe σ2 vs = wipe σ vs := by
      refine wipe_eq ?_ fun j hj => ?_
      · have q1 := rs3.len
        have q2 := rs2.len
        have q3 := bindT_len hb1
        rw [wipe_length] at q2
        omega
      · rw [o3 j fun z => hj (hts j z), wipe_out hj]
    refine ⟨hw, qt (With B D) eb σ2 H' _ rs3 ?_⟩
    have htst : tst fc eb = .ok b e3 := by
      unfold tst
      rw [hb2]
      rfl
    rw [htst]
    intro b' H3 rs4 st4 hbb
    have hbb : b = b' := hbb
    subst hbb
    rcases hb3 with ⟨rfl, ds1, e4, ys1, e5, ys', hf, hin, hr2, rfl⟩ | ⟨rfl, hr2⟩
    · rw [if_pos rfl]
      refine qi1 (With B D) e3 σ2 H3 _ rs4 ?_
      rw [hf]
      intro J1 H4 rs5 st5 w5
      have k3 : H3 D = some (.lst acc) := st4.fr D _ hacc (rs3.notOwn (.inr rfl))
      have k4 : H4 D = some (.lst acc) := st5.fr D _ k3 (rs4.notOwn (.inr rfl))
      have rd4 := rs4.keeps st5 (rs3.keeps st4 (rs2.keeps st3 rd))
      refine inner_ok (RX := RX) (B := B) (D := D) (E1 := wipes e1 vs) (S1 := wipe σ vs) (H1 := H1) qg1 qt1 qe hts1 hD (((st2.trans st3).trans st4).trans st5) rs5 k4 rd4 w5 hin ?_ fun H acc' ha' rs6 st6 rd6 => ?_
      · have : ys.length = (done ++ ys1).length + ys'.length := by rw [hys, List.length_append, List.length_append, List.length_append]; omega
        omega
      · refine ⟨by omega, acc', done ++ ys1, ys', e5, ha', ?_, ?_, ?_, hr2, by rw [hys, List.append_assoc]⟩
        · have := rs6.wipes vs
          rw [wipes_wipes hv, wipe_wipe hv, hw] at this
          exact this
        · exact ⟨st6.fr, st6.al, fun a q => st6.sub a (own_wipes (vs := vs) (by rw [wipes_wipes hv, wipe_wipe hv, hw]; exact q))⟩
        · have := rd6.wiped vs
          rw [wipes_wipes hv, wipe_wipe hv, hw] at this
          exact this
    · rw [if_neg (fun z => by cases z)]
      have k3 : H3 D = some (.lst acc) := st4.fr D _ hacc (rs3.notOwn (.inr rfl))
      have rd4 := rs3.keeps st4 (rs2.keeps st3 rd)
      refine ⟨by omega, acc, done, rest, e3, k3, ?_, ?_, ?_, hr2, hys⟩
      · have := rs4.wipes vs
        rw [hw] at this
        exact this
      · have s5 := (st2.trans st3).trans st4
        exact ⟨s5.fr, s5.al, fun a q => s5.sub a (own_wipes (vs := vs) (by rw [hw]; exact q))⟩
      · have := rd4.wiped vs
        rw [hw] at this
        exact this
  · refine .inl ⟨wk.stop (by omega), ?_⟩
    rw [List.drop_eq_nil_of_le (by omega)] at hrest
    have hrest : R.ok [] ec = .ok rest e2 := hrest
    cases hrest
    rw [List.append_nil] at hys
    subst hys
    obtain ⟨r1, r2, r3⟩ := st_unwipe rs1 hD hno rs2 st2
    exact h1 D acc H2 hD r1 r2 hacc (Rps.mono (S := fun _ => False) ⟨fun _ _ q _ => q, fun _ z => z.elim⟩ (fun _ z => z.elim) (fun b q => .inl (r3 b q)) rd)
/-- a list written out -/
theorem sf_lst {es : List PySem.Expr} {g : Env → R (List D)} (h : SL RX Γ C gv K W es g) : SF RX Γ C gv K W (.List es pos) fun e => (g e).bind fun ds e => if ds.length ≤ lim then .ok (.lst ds) e else .no := by
  obtain ⟨t, p, q⟩ := h
  refine ⟨tLst t, fun X ok hK => ⟨pe_lst (p X ok hK), fun i y py spos hy hl hsw => ps_set (by rw [ok.hN]; exact ok.nd) hy hl.1 (pe_lst (p X ok hK)) rfl hl.2⟩, fun B e σ H Q rs h => ?_⟩
  refine q B e σ H _ rs (FPost.bind h fun ds e1 vs H1 _ rs1 _ rl h1 => ?_)
  split at h1
  · rename_i hl
    refine ⟨?_, fun p hp => h1 p vs _ hp (rs1.with_ hp) (rs1.laid hp).2 upd_same ?_⟩
    · rw [← rl.len]
      exact Nat.le_trans hl lim_line
    · refine Rps.mono (Fr.fresh hp) (fun _ z => z.elim) (fun b q => ?_) rl
      rcases q with (q | q) | q
      · exact .inl (.inl q)
      · exact .inr (by rw [q]; exact hp)
      · exact .inl (.inr q)
  · exact h1.elim
end
end Ev
set_option Elab.async false
set_option linter.all false
set_option maxRecDepth 100000
set_option maxHeartbeats 4000000
set_option autoImplicit false
/-! Ev9b: an expression leaves a slot that holds a value as it is. -/
namespace Ev
/-- f leaves values in their slots -/
def Kp {a : Type} (f : Env → R a) : Prop := ∀ e d e', f e = .ok d e' → e'.length = e.length ∧ ∀ (i : Nat) (x : D), e[i]? = some (some (Sl.val x)) → e'[i]? = some (some (Sl.val x))
theorem Kp.bind {a b : Type} {f : Env → R a} {g : a → Env → R b} (hf : Kp f) (hg : ∀ x, Kp (g x)) : Kp fun e => (f e).bind g := fun e d e' h => by
  replace h : (f e).bind g = .ok d e' := h
  cases q : f e with
  | ok y e1 =>
    rw [q] at h
    obtain ⟨l1, k1⟩ := hf e y e1 q
    obtain ⟨l2, k2⟩ := hg y e1 d e' h
    exact ⟨l2.trans l1, fun i x hx => k2 i x (k1 i x hx)⟩
  | ex y e1 => rw [q] at h; cases h
  | no => rw [q] at h; cases h
theorem Kp.of {a : Type} {o : Option a} : Kp fun e => R.of o e := fun e d e' h => by
  cases o with
  | none => cases h
  | some y => cases h; exact ⟨rfl, fun i x hx => hx⟩
theorem Kp.ok {a : Type} {y : a} : Kp fun e => R.ok y e := fun e d e' h => by
  cases h
  exact ⟨rfl, fun i x hx => hx⟩
theorem Kp.no {a : Type} : Kp fun _ => (R.no : R a) := fun e d e' h => by cases h
theorem Kp.set {e : Env} {i j : Nat} {x : D} {s : Option Sl} (hx : e[j]? = some (some (Sl.val x))) (h : ∀ y, e[i]? ≠ some (some (Sl.val y))) : (e.set i s)[j]? = some (some (Sl.val x)) := by
  rw [List.getElem?_set_ne]
  · exact hx
  · intro z
    subst z
    exact h x hx
theorem own_noval {e : Env} {i : Nat} {ds : List D} (h : getO e i = some ds) (y : D) : e[i]? ≠ some (some (Sl.val y)) := by
  unfold getO at h
  intro z
  rw [z] at h
  cases h
theorem kp_getV {i : Nat} : Kp fun e => getV e i := fun e d e' h => by
  replace h : getV e i = .ok d e' := h
  unfold getV at h
  split at h
  · cases h; exact ⟨rfl, fun j x hx => hx⟩
  · rename_i q
    cases h
    exact ⟨List.length_set, fun j x hx => Kp.set hx fun y z => by rw [q] at z; cases z⟩
  · cases h
theorem bindT_kp {t : Tg} : ∀ {d : D} {e e' : Env}, bindT t d e = some e' → ∀ j, j ∉ t.slots → e'[j]? = e[j]? := by
  induction t with
  | nm i =>
    intro d e e' h j hj
    cases (show some (e.set i (some (Sl.val d))) = some e' from h)
    rw [List.getElem?_set_ne]
    intro z
    exact hj (by rw [z]; exact List.mem_singleton.mpr rfl)
  | tp t ih =>
    intro d e e' h j hj
    cases d with
    | tup ds => exact ih (d := .lst ds) h j hj
    | lst ds => exact ih (d := .lst ds) h j hj
    | _ => cases h
  | nil =>
    intro d e e' h j hj
    cases d with
    | lst ds => cases ds with
      | nil => cases (show some e = some e' from h); rfl
      | cons _ _ => cases h
    | _ => cases h
  | cons t ts iht ihts =>
    intro d e e' h j hj
    cases d with
    | lst ds => cases ds with
      | nil => cases h
      | cons x xs =>
        have h : ((bindT t x e).bind fun e1 => bindT ts (.lst xs) e1) = some e' := h
        have hj : j ∉ t.slots ++ ts.slots := hj
        rw [List.mem_append] at hj
        cases z : bindT t x e with
        | none => rw [z] at h; cases h
        | some e1 =>
          rw [z] at h
          rw [ihts (d := .lst xs) h j fun w => hj (.inr w), iht z j fun w => hj (.inl w)]
    | _ => cases h
theorem compL_kp {vs : List Nat} {t : Tg} {c f : Env → R D} (ht : ∀ i, i ∈ t.slots → i ∈ vs) (hc : Kp c) (hf : Kp f) : ∀ {ds : List D} {e e' : Env} {ys : List D}, compL vs t c f ds e = .ok ys e' → e'.length = e.length ∧ ∀ (i : Nat) (x : D), i ∉ vs → e[i]? = some (some (Sl.val x)) → e'[i]? = some (some (Sl.val x))
  | [], e, e', ys, h => by
    cases (show R.ok [] e = .ok ys e' from h)
    exact ⟨rfl, fun i x _ hx => hx⟩
  | d :: ds, e, e', ys, h => by
    obtain ⟨eb, b, e3, h1, h2, h3⟩ := compL_cons h
    have l1 : eb.length = e.length := by rw [bindT_len h1, wipes_len]
    obtain ⟨l2, k2⟩ := hc eb _ e3 h2
    have x1 : ∀ (i : Nat) (x : D), i ∉ vs → e[i]? = some (some (Sl.val x)) → eb[i]? = some (some (Sl.val x)) := fun i x hi hx => by
      rw [bindT_kp h1 i fun z => hi (ht i z), wipes_out hi]
      exact hx
    rcases h3 with ⟨_, y, e4, ys', h4, h5, _⟩ | ⟨_, h5⟩
    · obtain ⟨l3, k3⟩ := hf e3 y e4 h4
      obtain ⟨l4, k4⟩ := compL_kp ht hc hf h5
      exact ⟨by omega, fun i x hi hx => k4 i x hi (k3 i x (k2 i x (x1 i x hi hx)))⟩
    · obtain ⟨l4, k4⟩ := compL_kp ht hc hf h5
      exact ⟨by omega, fun i x hi hx => k4 i x hi (k2 i x (x1 i x hi hx))⟩
theorem compL2_kp {vs vs1 : List Nat} {t t1 : Tg} {c c1 f : Env → R D} {s1 : Env → R (List D)} (ht : ∀ i, i ∈ t.slots → i ∈ vs) (ht1 : ∀ i, i ∈ t1.slots → i ∈ vs1) (hv : ∀ i, i ∈ vs1 → i ∈ vs) (hc : Kp c) (hs : Kp s1) (hc1 : Kp c1) (hf : Kp f) : ∀ {ds : List D} {e e' : Env} {ys : List D}, compL2 vs t c s1 vs1 t1 c1 f ds e = .ok ys e' → e'.length = e.length ∧ ∀ (i : Nat) (x : D), i ∉ vs → e[i]? = some (some (Sl.val x)) → e'[i]? = some (some (Sl.val x))
  | [], e, e', ys, h => by
    cases (show R.ok [] e = .ok ys e' from h)
    exact ⟨rfl, fun i x _ hx => hx⟩
  | d :: ds, e, e', ys, h => by
    obtain ⟨eb, b, e3, h1, h2, h3⟩ := compL2_cons h
    have l1 : eb.length = e.length := by rw [bindT_len h1, wipes_len]
    obtain ⟨l2, k2⟩ := hc eb _ e3 h2
    have x1 : ∀ (i : Nat) (x : D), i ∉ vs → e[i]? = some (some (Sl.val x)) → eb[i]? = some (some (Sl.val x)) := fun i x hi hx => by
      rw [bindT_kp h1 i fun z => hi (ht i z), wipes_out hi]
      exact hx
    rcases h3 with ⟨_, ds1, e4, ys1, e5, ys', h4, h5, h6, _⟩ | ⟨_, h5⟩
    · obtain ⟨l3, k3⟩ := hs e3 ds1 e4 h4
      obtain ⟨l4, k4⟩ := compL_kp ht1 hc1 hf h5
      obtain ⟨l5, k5⟩ := compL2_kp ht ht1 hv hc hs hc1 hf h6
      exact ⟨by omega, fun i x hi hx => k5 i x hi (k4 i x (fun z => hi (hv i z)) (k3 i x (k2 i x (x1 i x hi hx))))⟩
    · obtain ⟨l4, k4⟩ := compL2_kp ht ht1 hv hc hs hc1 hf h5
      exact ⟨by omega, fun i x hi hx => k4 i x hi (k2 i x (x1 i x hi hx))⟩
theorem Kp.way {a : Type} {x : D} {f g : Env → R a} (hf : Kp f) (hg : Kp g) : Kp fun e => R.way x (f e) (g e) := fun e d e' h => by
  replace h : R.way x (f e) (g e) = .ok d e' := h
  unfold R.way at h
  split at h
  · exact hf e d e' h
  · exact hg e d e' h
  · cases h
theorem Kp.ite {a : Type} {b : Bool} {f g : Env → R a} (hf : Kp f) (hg : Kp g) : Kp fun e => if b = true then f e else g e := by
  cases b with
  | true => exact hf
  | false => exact hg
theorem s2 {a b : Bool} (h : (a && b) = true) : a = true ∧ b = true := Bool.and_eq_true_iff.mp h
theorem den_kp (C : Ctx) (a : Ex) : slB a = true → Kp (den C a) ∧ Kp (denL C a) := by
  induction a with
  | lit d => exact fun _ => ⟨Kp.ok, Kp.no⟩
  | var i => exact fun _ => ⟨kp_getV, Kp.no⟩
  | gval g => exact fun _ => ⟨Kp.ok, Kp.no⟩
  | tup a ih =>
    refine fun h => ⟨Kp.bind (ih h).2 fun ds => ?_, Kp.no⟩
    by_cases hl : ds.length ≤ lim
    · simp only [if_pos hl]; exact Kp.ok
    · simp only [if_neg hl]; exact Kp.no
  | lst a ih =>
    refine fun h => ⟨Kp.bind (ih h).2 fun ds => ?_, Kp.no⟩
    by_cases hl : ds.length ≤ lim
    · simp only [if_pos hl]; exact Kp.ok
    · simp only [if_neg hl]; exact Kp.no
  | bin o a b iha ihb =>
    intro h
    obtain ⟨h1, h2⟩ := s2 h
    exact ⟨Kp.bind (iha h1).1 fun x => Kp.bind (ihb h2).1 fun y => Kp.of, Kp.no⟩
  | neg a ih =>
    refine fun h => ⟨Kp.bind (ih h).1 fun x => ?_, Kp.no⟩
    cases x <;> first | exact Kp.ok | exact Kp.no
  | cmp o a b iha ihb =>
    intro h
    obtain ⟨h1, h2⟩ := s2 h
    exact ⟨Kp.bind (iha h1).1 fun x => Kp.bind (ihb h2).1 fun y => Kp.of, Kp.no⟩
  | cmp2 o q a b c iha ihb ihc =>
    intro h
    obtain ⟨h1, h⟩ := s2 h
    obtain ⟨h2, h3⟩ := s2 h
    refine ⟨Kp.bind (iha h1).1 fun x => Kp.bind (ihb h2).1 fun y => ?_, Kp.no⟩
    cases cmpop o x y with
    | none => exact Kp.no
    | some b => cases b with
      | true => exact Kp.bind (ihc h3).1 fun z => Kp.of
      | false => exact Kp.ok
  | and a b iha ihb =>
    intro h
    obtain ⟨h1, h2⟩ := s2 h
    refine ⟨Kp.bind (iha h1).1 fun x => ?_, Kp.no⟩
    cases x with
    | bl v => cases v with
      | true => exact (ihb h2).1
      | false => exact Kp.ok
    | _ => exact Kp.no
  | or a b iha ihb =>
    intro h
    obtain ⟨h1, h2⟩ := s2 h
    refine ⟨Kp.bind (iha h1).1 fun x => ?_, Kp.no⟩
    cases x with
    | bl v => cases v with
      | true => exact Kp.ok
      | false => exact (ihb h2).1
    | _ => exact Kp.no
  | not a ih => exact fun h => ⟨Kp.bind (ih h).1 fun x => Kp.way Kp.ok Kp.ok, Kp.no⟩
  | ite c a b ihc iha ihb =>
    intro h
    obtain ⟨h1, h⟩ := s2 h
    obtain ⟨h2, h3⟩ := s2 h
    exact ⟨Kp.bind (ihc h1).1 fun x => Kp.way (iha h2).1 (ihb h3).1, Kp.no⟩
  | call f io a ih =>
    refine fun h => ⟨fun e d e' q => ?_, Kp.no⟩
    replace q : (match ioOk io e with
      | true => (denL C a e).bind fun ds e => match argsOf io ds e with
        | some xs => afterCall io (C.call f xs) e
        | none => .no
      | false => .no) = .ok d e' := q
    cases z : ioOk io e with
    | false => rw [z] at q; cases q
    | true =>
      rw [z] at q
      replace q : ((denL C a e).bind fun ds e => match argsOf io ds e with
        | some xs => afterCall io (C.call f xs) e
        | none => .no) = .ok d e' := q
      cases z1 : denL C a e with
      | ex _ _ => rw [z1] at q; cases q
      | no => rw [z1] at q; cases q
      | ok ds e1 =>
        rw [z1] at q
        obtain ⟨l1, k1⟩ := (ih h).2 e ds e1 z1
        replace q : (match argsOf io ds e1 with
          | some xs => afterCall io (C.call f xs) e1
          | none => .no) = .ok d e' := q
        cases z2 : argsOf io ds e1 with
        | none => rw [z2] at q; cases q
        | some xs =>
          rw [z2] at q
          replace q : afterCall io (C.call f xs) e1 = .ok d e' := q
          cases z3 : C.call f xs with
          | ok d2 cs =>
            rw [z3] at q
            cases (show R.ok d2 (putIo io cs e1) = .ok d e' from q)
            cases io with
            | none => exact ⟨l1, k1⟩
            | some k =>
              have : ∃ cs, getO e1 k = some cs := by
                replace z2 : (getO e1 k).map (fun cs => Sl.own cs :: ds.map Sl.val) = some xs := z2
                cases z4 : getO e1 k with
                | none => rw [z4] at z2; cases z2
                | some cs => exact ⟨cs, rfl⟩
              obtain ⟨cs0, z5⟩ := this
              exact ⟨List.length_set.trans l1, fun i x hx => Kp.set (k1 i x hx) (own_noval z5)⟩
          | ex _ => rw [z3] at q; cases io <;> cases q
          | no => rw [z3] at q; cases q
  | ix a b iha ihb =>
    intro h
    obtain ⟨h1, h2⟩ := s2 h
    exact ⟨Kp.bind (iha h1).1 fun x => Kp.bind (ihb h2).1 fun y => Kp.of, Kp.no⟩
  | oix i b ih =>
    refine fun h => ⟨fun e d e' q => ?_, Kp.no⟩
    replace q : (match ioOk (some i) e with
      | true => (den C b e).bind fun y e => match getO e i with
        | some ds => R.of (ixop (.lst ds) y) e
        | none => .no
      | false => .no) = .ok d e' := q
    cases z : ioOk (some i) e with
    | false => rw [z] at q; cases q
    | true =>
      rw [z] at q
      refine (Kp.bind (ih h).1 (g := fun y e => match getO e i with
        | some ds => R.of (ixop (.lst ds) y) e
        | none => .no) fun y e d e' q => ?_) e d e' q
      cases z1 : getO e i with
      | none => simp only [z1] at q; cases q
      | some ds => simp only [z1] at q; exact Kp.of e d e' q
  | sl a l u iha ihl ihu =>
    intro h
    obtain ⟨h1, h⟩ := s2 h
    obtain ⟨h2, h3⟩ := s2 h
    exact ⟨Kp.bind (iha h1).1 fun x => Kp.bind (Kp.bind (ihl h2).1 fun y => Kp.of) fun y => Kp.bind (Kp.bind (ihu h3).1 fun z => Kp.of) fun z => Kp.of, Kp.no⟩
  | prim p a ih => exact fun h => ⟨Kp.bind (ih h).2 fun ds => Kp.of, Kp.no⟩
  | isi p a ih => exact fun h => ⟨Kp.bind (ih h).1 fun x => Kp.of, Kp.no⟩
  | rev a ih => exact fun h => ⟨Kp.bind (ih h).1 fun x => Kp.of, Kp.no⟩
  | prim2 p a b iha ihb =>
    intro h
    obtain ⟨h1, h2⟩ := s2 h
    exact ⟨Kp.bind (iha h1).1 fun x => Kp.bind (ihb h2).1 fun y => Kp.of, Kp.no⟩
  | olen i =>
    refine fun h => ⟨fun e d e' q => ?_, Kp.no⟩
    replace q : (match getO e i with
      | some ds => R.of (prim .len [.lst ds]) e
      | none => .no) = .ok d e' := q
    cases z : getO e i with
    | none => rw [z] at q; cases q
    | some ds => rw [z] at q; exact Kp.of e d e' q
  | lc vs t src cond elt ihs ihc ihe =>
    intro h
    obtain ⟨h0, h⟩ := s2 h
    obtain ⟨h1, h⟩ := s2 h
    obtain ⟨h2, h3⟩ := s2 h
    refine ⟨Kp.bind (ihs h1).2 fun ds e d e' q => ?_, Kp.no⟩
    replace q : (match vs.all fun v => (getO e v).isNone with
      | true => match compL vs t (den C cond) (den C elt) ds e with
        | .ok ys e1 => if ys.length ≤ lim then R.ok (D.lst ys) (backs e e1 vs) else .no
        | _ => .no
      | false => .no) = .ok d e' := q
    split at q
    · split at q
      · rename_i ys e1 z
        obtain ⟨l1, k1⟩ := compL_kp (fun i z => List.contains_iff_mem.mp (List.all_eq_true.mp h0 i z)) (ihc h2).1 (ihe h3).1 z
        split at q
        · cases q
          refine ⟨by rw [backs_len]; exact l1, fun i x hx => ?_⟩
          by_cases hi : i ∈ vs
          · rw [backs_in l1 hi]
            exact hx
          · rw [backs_out hi]
            exact k1 i x hi hx
        · cases q
      · cases q
    · cases q
  | lc2 vs t src cond vs1 t1 src1 cond1 elt ihs ihc ihs1 ihc1 ihe =>
    intro h
    obtain ⟨h0, h⟩ := s2 h
    obtain ⟨k0, h⟩ := s2 h
    obtain ⟨j0, h⟩ := s2 h
    obtain ⟨h1, h⟩ := s2 h
    obtain ⟨h2, h⟩ := s2 h
    obtain ⟨h3, h⟩ := s2 h
    obtain ⟨h4, h5⟩ := s2 h
    refine ⟨Kp.bind (ihs h1).2 fun ds e d e' q => ?_, Kp.no⟩
    replace q : (match vs.all fun v => (getO e v).isNone with
      | true => match compL2 vs t (den C cond) (denL C src1) vs1 t1 (den C cond1) (den C elt) ds e with
        | .ok ys e1 => if ys.length ≤ lim then R.ok (D.lst ys) (backs e e1 vs) else .no
        | _ => .no
      | false => .no) = .ok d e' := q
    split at q
    · split at q
      · rename_i ys e1 z
        obtain ⟨l1, k1⟩ := compL2_kp (fun i z => List.contains_iff_mem.mp (List.all_eq_true.mp h0 i z)) (fun i z => List.contains_iff_mem.mp (List.all_eq_true.mp k0 i z)) (fun i z => List.contains_iff_mem.mp (List.all_eq_true.mp j0 i z)) (ihc h2).1 (ihs1 h3).2 (ihc1 h4).1 (ihe h5).1 z
        split at q
        · cases q
          refine ⟨by rw [backs_len]; exact l1, fun i x hx => ?_⟩
          by_cases hi : i ∈ vs
          · rw [backs_in l1 hi]
            exact hx
          · rw [backs_out hi]
            exact k1 i x hi hx
        · cases q
      · cases q
    · cases q
  | lend i a ih =>
    refine fun h => ⟨fun e d e' q => ?_, Kp.no⟩
    replace q : (match getO e i with
      | some ds => (den C a (e.set i (some (Sl.val (.lst ds))))).bind fun d e1 => if (d.flat && lendOk i 0 e e1) = true then R.ok d (e1.set i (some (Sl.own ds))) else .no
      | none => .no) = .ok d e' := q
    cases z : getO e i with
    | none => rw [z] at q; cases q
    | some ds =>
      rw [z] at q
      replace q : ((den C a (e.set i (some (Sl.val (.lst ds))))).bind fun d e1 => if (d.flat && lendOk i 0 e e1) = true then R.ok d (e1.set i (some (Sl.own ds))) else .no) = .ok d e' := q
      cases z1 : den C a (e.set i (some (Sl.val (.lst ds)))) with
      | ex _ _ => rw [z1] at q; cases q
      | no => rw [z1] at q; cases q
      | ok y e1 =>
        rw [z1] at q
        obtain ⟨l1, k1⟩ := (ih h).1 _ y e1 z1
        rw [List.length_set] at l1
        replace q : (if (y.flat && lendOk i 0 e e1) = true then R.ok y (e1.set i (some (Sl.own ds))) else .no) = .ok d e' := q
        split at q
        · cases q
          refine ⟨List.length_set.trans l1, fun j x hx => ?_⟩
          have hne : i ≠ j := fun w => own_noval z x (by rw [w]; exact hx)
          rw [List.getElem?_set_ne hne]
          exact k1 j x (by rw [List.getElem?_set_ne hne]; exact hx)
        · cases q
  | nil => exact fun _ => ⟨Kp.no, Kp.ok⟩
  | cons a b iha ihb =>
    intro h
    obtain ⟨h1, h2⟩ := s2 h
    exact ⟨Kp.no, Kp.bind (iha h1).1 fun x => Kp.bind (ihb h2).2 fun xs => Kp.ok⟩
  | items a ih =>
    refine fun h => ⟨Kp.no, Kp.bind (ih h).1 fun x => ?_⟩
    cases x <;> first | exact Kp.ok | exact Kp.no
  | rng1 a ih =>
    refine fun h => ⟨Kp.no, Kp.bind (ih h).1 fun x => ?_⟩
    cases x with
    | int i =>
      by_cases hr : rangeOk 0 i = true
      · simp only [if_pos hr]; exact Kp.ok
      · simp only [if_neg hr]; exact Kp.no
    | _ => exact Kp.no
  | rng2 a b iha ihb =>
    intro h
    obtain ⟨h1, h2⟩ := s2 h
    refine ⟨Kp.no, Kp.bind (iha h1).1 fun x => Kp.bind (ihb h2).1 fun y => ?_⟩
    cases x with
    | int i =>
      cases y with
      | int j =>
        by_cases hr : rangeOk i j = true
        · simp only [if_pos hr]; exact Kp.ok
        · simp only [if_neg hr]; exact Kp.no
      | _ => exact Kp.no
    | _ => exact Kp.no
end Ev
set_option Elab.async false
set_option linter.all false
set_option maxRecDepth 100000
set_option maxHeartbeats 4000000
set_option autoImplicit false
/-! Ev9c: a slot's own list lent to an expression. -/
namespace Ev
open PySem PySem.Spec PyProof.Rows L2
section
variable {K : PySem.W.Frag} {O O' : Addr → Prop} {H : Hp}
mutual
theorem Rp.flat : ∀ {d : D} {v : V}, D.flat d = true → Rp K O H d v → Rp K O' H d v
  | .non, v, _, h => by unfold Rp at h ⊢; exact h
  | .bl b, v, _, h => by unfold Rp at h ⊢; exact h
  | .int i, v, _, h => by unfold Rp at h ⊢; exact h
  | .str x, v, _, h => by unfold Rp at h ⊢; exact h
  | .tup ds, v, f, h => by
    unfold Rp at h ⊢
    unfold D.flat at f
    obtain ⟨a, vs, e, s, r⟩ := h
    exact ⟨a, vs, e, s, Rps.flat f r⟩
  | .lst ds, v, f, h => by
    unfold D.flat at f
    cases f
  | .fz ds, v, f, h => by
    unfold Rp at h ⊢
    unfold D.flat at f
    obtain ⟨a, vs, e, s, r⟩ := h
    exact ⟨a, vs, e, s, Rps.flat f r⟩
theorem Rps.flat : ∀ {ds : List D} {vs : List V}, D.flats ds = true → Rps K O H ds vs → Rps K O' H ds vs
  | [], vs, _, h => by unfold Rps at h ⊢; exact h
  | d :: ds, vs, f, h => by
    unfold Rps at h ⊢
    unfold D.flats at f
    obtain ⟨f1, f2⟩ := Bool.and_eq_true_iff.mp f
    obtain ⟨v, r, e, h1, h2⟩ := h
    exact ⟨v, r, e, Rp.flat f1 h1, Rps.flat f2 h2⟩
end
end
theorem lendOk_at {i : Nat} : ∀ {k : Nat} {e e' : Env} {j : Nat} {x y : Option Sl}, lendOk i k e e' = true → e[j]? = some x → e'[j]? = some y → k + j ≠ i → isVal x = true ∨ slFlat y = true
  | k, [], e', j, x, y, h, h1, h2, hj => by simp at h1
  | k, a :: e, [], j, x, y, h, h1, h2, hj => by simp at h2
  | k, a :: e, b :: e', 0, x, y, h, h1, h2, hj => by
    unfold lendOk at h
    simp at h1 h2
    subst h1 h2
    obtain ⟨h, _⟩ := Bool.and_eq_true_iff.mp h
    have hk : (k == i) = false := by simpa using hj
    rw [hk, Bool.false_or, Bool.or_eq_true] at h
    exact h
  | k, a :: e, b :: e', j + 1, x, y, h, h1, h2, hj => by
    unfold lendOk at h
    obtain ⟨_, h⟩ := Bool.and_eq_true_iff.mp h
    exact lendOk_at h (by simpa using h1) (by simpa using h2) (by omega)
theorem isVal_i {x : Option Sl} (h : isVal x = true) : ∃ d, x = some (Sl.val d) := by
  unfold isVal at h
  split at h
  · exact ⟨_, rfl⟩
  · cases h
section
variable {K : PySem.W.Frag} {B : Addr → Prop} {e e' : Env} {σ : L2.St} {H H' : Hp}
/-- the list is the slot's own again -/
theorem RSt.lent (rs : RSt K B H e σ) {i : Nat} {ds : List D} (ho : e[i]? = some (some (Sl.own ds))) (rs' : RSt K B H' e' σ) (st' : Stp H (e.set i (some (Sl.val (.lst ds)))) σ H' e' σ) (hl : e'.length = e.length)
    (hv : ∀ (j : Nat) (x : D), (e.set i (some (Sl.val (.lst ds))))[j]? = some (some (Sl.val x)) → e'[j]? = some (some (Sl.val x))) (hok : lendOk i 0 e e' = true) :
    RSt K B H' (e'.set i (some (Sl.own ds))) σ ∧ Stp H e σ H' (e'.set i (some (Sl.own ds))) σ := by
  have hi : i < e.length := (List.getElem?_eq_some_iff.mp ho).1
  obtain ⟨a, vs, a1, a2, a3, a4⟩ := rs.own i ds ho
  have vi : e'[i]? = some (some (Sl.val (.lst ds))) := hv i _ (List.getElem?_set_self hi)
  obtain ⟨va, b1, b2⟩ := rs'.val i _ vi
  rw [a1] at b1
  cases b1
  obtain ⟨a', vs', c1, c2, c3, c4⟩ : ∃ a' vs', V.ref a = .ref a' ∧ ¬ Of B e' σ a' ∧ H' a' = some (.lst vs') ∧ Rps K (Of B e' σ) H' ds vs' := by
    unfold Rp at b2
    exact b2
  cases c1
  have own1 : ∀ b, OwnAt (e.set i (some (Sl.val (.lst ds)))) σ b → OwnAt e σ b := fun b ⟨j, es, q1, q2⟩ => by
    obtain ⟨_, q⟩ := own_set_val q1
    exact ⟨j, es, q, q2⟩
  have own2 : ∀ b, OwnAt (e'.set i (some (Sl.own ds))) σ b → b = a ∨ OwnAt e' σ b := fun b ⟨j, es, q1, q2⟩ => by
    rcases own_set_own q1 with ⟨rfl, _, _⟩ | ⟨_, q⟩
    · rw [a1] at q2; cases q2; exact .inl rfl
    · exact .inr ⟨j, es, q, q2⟩
  have ha : OwnAt e σ a := ⟨i, ds, ho, a1⟩
  have st : Stp H e σ H' (e'.set i (some (Sl.own ds))) σ := by
    refine ⟨fun b o h n => st'.fr b o h fun z => n (own1 b z), st'.al, fun b h => ?_⟩
    rcases own2 b h with z | z
    · exact .inl (by rw [z]; exact ha)
    · exact (st'.sub b z).imp (own1 b) id
  have same : vs' = vs := by
    have h1 : H' a = some (.lst vs) := st'.fr a _ a3 fun z => by
      obtain ⟨j, es, q1, q2⟩ := z
      obtain ⟨hj, q⟩ := own_set_val q1
      exact hj (rs.inj j i es ds a q ho q2 a1)
    rw [c3] at h1
    cases h1
    rfl
  subst same
  have old : ∀ {j : Nat} {x : Option Sl}, e'[j]? = some x → ∃ y, e[j]? = some y := fun {j x} h => by
    have := (List.getElem?_eq_some_iff.mp h).1
    exact ⟨e[j]'(by omega), List.getElem?_eq_getElem (by omega)⟩
  have fl : ∀ {j : Nat} {x : Sl}, j ≠ i → e'[j]? = some (some x) → (∃ d, e[j]? = some (some (Sl.val d)) ∧ x = .val d) ∨ slFlat (some x) = true := fun {j x} hj h => by
    obtain ⟨y, hy⟩ := old h
    rcases lendOk_at hok hy h (by omega) with q | q
    · obtain ⟨d, rfl⟩ := isVal_i q
      have := hv j d (by rw [List.getElem?_set_ne (Ne.symm hj)]; exact hy)
      rw [h] at this
      cases this
      exact .inl ⟨d, hy, rfl⟩
    · exact .inr q
  refine ⟨⟨by rw [List.length_set, hl]; exact rs.len, fun j d h => ?_, fun j es h => ?_, fun j k es fs b q1 q2 q3 q4 => ?_, rs'.bnd⟩, st⟩
  · have hj : j ≠ i := fun z => by
      rw [z, List.getElem?_set_self (by omega)] at h
      cases h
    rw [List.getElem?_set_ne (Ne.symm hj)] at h
    rcases fl hj h with ⟨d', h1, h2⟩ | h1
    · cases h2
      obtain ⟨v, w1, w2⟩ := rs.val j d h1
      exact ⟨v, w1, rs.keep st w2⟩
    · obtain ⟨v, w1, w2⟩ := rs'.val j d h
      exact ⟨v, w1, Rp.flat h1 w2⟩
  · rcases own_set_own h with ⟨rfl, rfl, _⟩ | ⟨hj, q⟩
    · exact ⟨a, vs', a1, a2, c3, rs.keeps st a4⟩
    · obtain ⟨b, us, w1, w2, w3, w4⟩ := rs'.own j es q
      rcases fl hj q with ⟨d', _, h2⟩ | h1
      · cases h2
      · exact ⟨b, us, w1, w2, w3, Rps.flat h1 w4⟩
  · have no : ∀ {j : Nat} {es : List D}, j ≠ i → e'[j]? = some (some (Sl.own es)) → σ[j]? ≠ some (some (V.ref a)) := fun {j es} _ q z => c2 (.inr ⟨j, es, q, z⟩)
    rcases own_set_own q1 with ⟨h1, _, _⟩ | ⟨h1, q1'⟩
    · rcases own_set_own q2 with ⟨h2, _, _⟩ | ⟨h2, q2'⟩
      · rw [h1, h2]
      · rw [h1, a1] at q3
        cases q3
        exact absurd q4 (no h2 q2')
    · rcases own_set_own q2 with ⟨h2, _, _⟩ | ⟨h2, q2'⟩
      · rw [h2, a1] at q4
        cases q4
        exact absurd q3 (no h1 q1')
      · exact rs'.inj j k _ _ b q1' q2' q3 q4
end
section
variable {RX : RXT} {Γ : Gam} {C : Ctx} {gv : Nat → V} {K : PySem.W.Frag} {W : WX}
def lendF (i : Nat) (f : Env → R D) : Env → R D := fun e => match getO e i with
    | some ds => (f (e.set i (some (Sl.val (.lst ds))))).bind fun d e1 => if (d.flat && lendOk i 0 e e1) = true then .ok d (e1.set i (some (Sl.own ds))) else .no
    | none => .no
theorem se_lend {i : Nat} {ex : PySem.Expr} {f : Env → R D} (hk : Kp f) (h : SE RX Γ C gv K W ex f) : SE RX Γ C gv K W ex (lendF i f) := by
  obtain ⟨t, p, q⟩ := h
  refine ⟨t, p, fun B e σ H Q rs h => ?_⟩
  unfold lendF at h
  cases k : getO e i with
  | none => simp only [k] at h; exact h.elim
  | some ds =>
    simp only [k] at h
    have ho := getO_own k
    obtain ⟨rs1, st1, _⟩ := rs.freeze ho
    refine q B _ σ H Q rs1 ?_
    cases z : f (e.set i (some (Sl.val (.lst ds)))) with
    | no => rw [z] at h; exact h.elim
    | ex x e1 =>
      rw [z] at h
      exact fun c dd H' rs' st' rx => h c dd H' rs' (st1.trans st') rx
    | ok d e1 =>
      rw [z] at h
      replace h : PostE RX K W B e σ H (if (d.flat && lendOk i 0 e e1) = true then .ok d (e1.set i (some (Sl.own ds))) else .no) Q := h
      split at h
      · rename_i hc
        obtain ⟨hf, hok⟩ := and2 hc
        obtain ⟨l1, k1⟩ := hk _ d e1 z
        rw [List.length_set] at l1
        intro y H' rs' st' rp
        obtain ⟨r1, r2⟩ := rs.lent ho rs' st' l1 k1 hok
        exact h y H' r1 r2 (Rp.flat hf rp)
      · exact h.elim
theorem st_lend {i : Nat} {ex : PySem.Expr} {f : Env → R D} (hk : Kp f) (h : ST RX Γ C gv K W ex f) : ST RX Γ C gv K W ex (lendF i f) := by
  obtain ⟨t, p, q⟩ := h
  refine ⟨t, p, fun B e σ H Q rs h => ?_⟩
  unfold tst lendF at h
  cases k : getO e i with
  | none => simp only [k] at h; exact h.elim
  | some ds =>
    simp only [k] at h
    have ho := getO_own k
    obtain ⟨rs1, st1, _⟩ := rs.freeze ho
    refine q B _ σ H Q rs1 ?_
    unfold tst
    cases z : f (e.set i (some (Sl.val (.lst ds)))) with
    | no => rw [z] at h; exact h.elim
    | ex x e1 =>
      rw [z] at h
      exact fun c dd H' rs' st' rx => h c dd H' rs' (st1.trans st') rx
    | ok d e1 =>
      rw [z] at h
      replace h : Post RX K W B e σ H eqB ((if (d.flat && lendOk i 0 e e1) = true then R.ok d (e1.set i (some (Sl.own ds))) else .no).bind fun d e => R.of d.tr e) Q := h
      show Post RX K W B (e.set i (some (Sl.val (.lst ds)))) σ H eqB (R.of d.tr e1) Q
      split at h
      · rename_i hc
        obtain ⟨hf, hok⟩ := and2 hc
        obtain ⟨l1, k1⟩ := hk _ d e1 z
        rw [List.length_set] at l1
        replace h : Post RX K W B e σ H eqB (R.of d.tr (e1.set i (some (Sl.own ds)))) Q := h
        cases zt : d.tr with
        | none => rw [zt] at h; exact h.elim
        | some b =>
          rw [zt] at h
          intro y H' rs' st' rp
          obtain ⟨r1, r2⟩ := rs.lent ho rs' st' l1 k1 hok
          exact h y H' r1 r2 rp
      · exact h.elim
end
end Ev
set_option Elab.async false
set_option linter.all false
set_option maxRecDepth 100000
set_option maxHeartbeats 4000000
set_option autoImplicit false
/-! Ev10: every expression. -/
namespace Ev
open PySem PySem.Spec PyProof.Rows L2
section
variable {RX : RXT} {C : Ctx} {gv : Nat → V} {K : PySem.W.Frag}
def MainE (RX : RXT) (C : Ctx) (gv : Nat → V) (K : PySem.W.Frag) (a : Ex) : Prop :=
  (∀ (Γ : Gam) (W : WX) (ex : PySem.Expr), St0 Γ C gv K → mE Γ a ex = true → SE RX Γ C gv K W ex (den C a) ∧ (tE a = true → ST RX Γ C gv K W ex (den C a))) ∧
  (∀ (Γ : Gam) (W : WX) (es : List PySem.Expr), St0 Γ C gv K → mL Γ a es = true → SL RX Γ C gv K W es (denL C a)) ∧
  ∀ (Γ : Gam) (W : WX) (tg ex : PySem.Expr), St0 Γ C gv K → mI Γ a ex = true → SI RX Γ C gv K W tg ex (denL C a)
theorem noneB_i {a : Ex} (h : noneB a = true) : a = .lit .non := by
  cases a with
  | lit d => cases d <;> first | rfl | cases h
  | _ => cases h
theorem yesB_i {a : Ex} (h : yesB a = true) : a = .lit (.bl true) := by
  cases a with
  | lit d => cases d with
    | bl b => cases b <;> first | rfl | cases h
    | _ => cases h
  | _ => cases h
theorem not_t {b : Bool} (h : (!b) = true) : b = false := by cases b <;> first | rfl | cases h
theorem part_ok {Γ : Gam} {W : WX} {a : Ex} {o : Option PySem.Expr} (g0 : St0 Γ C gv K) (ih : MainE RX C gv K a) (h : (match o with
    | none => noneB a
    | some z => !noneB a && mE Γ a z) = true) : SP1 RX Γ C gv K W o fun e => (den C a e).bind fun l e => R.of (partR (noneB a) l) e := by
  cases o with
  | none =>
    cases noneB_i h
    exact sp_none
  | some z =>
    obtain ⟨h1, h2⟩ := and2 h
    have h1 : noneB a = false := not_t h1
    rw [h1]
    exact sp_some (ih.1 Γ W z g0 h2).1
theorem main_ok (a : Ex) : MainE RX C gv K a := by
  induction a with
  | lit d =>
    refine ⟨fun Γ W ex g0 h => ?_, fun Γ W es g0 h => (by cases h), fun Γ W tg ex g0 h => (by cases h)⟩
    obtain ⟨c, n, p, rfl, h⟩ := asCon_i h
    exact ⟨se_lit h, fun _ => (se_lit h).test fun _ _ => rfl⟩
  | var i =>
    refine ⟨fun Γ W ex g0 h => ?_, fun Γ W es g0 h => (by cases h), fun Γ W tg ex g0 h => (by cases h)⟩
    obtain ⟨x, p, rfl, h⟩ := asName_i h
    obtain ⟨h1, h2⟩ := and2 h
    exact ⟨se_var (of_decide_eq_true h1) h2, fun _ => (se_var (of_decide_eq_true h1) h2).test fun _ _ => rfl⟩
  | gval g =>
    refine ⟨fun Γ W ex g0 h => ?_, fun Γ W es g0 h => (by cases h), fun Γ W tg ex g0 h => (by cases h)⟩
    obtain ⟨x, p, rfl, h⟩ := asName_i h
    obtain ⟨h1, h2⟩ := and2 h
    exact ⟨se_gval g0 (of_decide_eq_true h1) h2, fun _ => (se_gval g0 (of_decide_eq_true h1) h2).test fun _ _ => rfl⟩
  | tup a ih =>
    refine ⟨fun Γ W ex g0 h => ?_, fun Γ W es g0 h => (by cases h), fun Γ W tg ex g0 h => (by cases h)⟩
    obtain ⟨x, n, p, rfl, h⟩ := asTup_i h
    have q : SE RX Γ C gv K W (.Tuple x n p) (den C (.tup a)) := se_tup (ih.2.1 Γ W x g0 h)
    exact ⟨q, fun _ => q.test fun _ _ => rfl⟩
  | lst a ih =>
    refine ⟨fun Γ W ex g0 h => ?_, fun Γ W es g0 h => (by cases h), fun Γ W tg ex g0 h => (by cases h)⟩
    obtain ⟨x, p, rfl, h⟩ := asLst_i h
    have q : SE RX Γ C gv K W (.List x p) (den C (.lst a)) := se_lst (ih.2.1 Γ W x g0 h)
    exact ⟨q, fun _ => q.test fun _ _ => rfl⟩
  | bin o a b iha ihb =>
    refine ⟨fun Γ W ex g0 h => ?_, fun Γ W es g0 h => (by cases h), fun Γ W tg ex g0 h => (by cases h)⟩
    obtain ⟨x, p, y, pos, rfl, h⟩ := asBin_i h
    obtain ⟨h0, h⟩ := and2 h
    obtain ⟨h1, h2⟩ := and2 h
    cases of_decide_eq_true h0
    have q : SE RX Γ C gv K W (.BinOp x (opOf o) y pos) (den C (.bin o a b)) := se_bin (iha.1 Γ W x g0 h1).1 (ihb.1 Γ W y g0 h2).1
    exact ⟨q, fun _ => q.test fun _ _ => rfl⟩
  | neg a ih =>
    refine ⟨fun Γ W ex g0 h => ?_, fun Γ W es g0 h => (by cases h), fun Γ W tg ex g0 h => (by cases h)⟩
    obtain ⟨p, x, pos, rfl, h⟩ := asUn_i h
    obtain ⟨h0, h⟩ := and2 h
    cases of_decide_eq_true h0
    have q : SE RX Γ C gv K W (.UnaryOp .USub x pos) (den C (.neg a)) := se_neg (ih.1 Γ W x g0 h).1
    exact ⟨q, fun _ => q.test fun _ _ => rfl⟩
  | cmp o a b iha ihb =>
    refine ⟨fun Γ W ex g0 h => ?_, fun Γ W es g0 h => (by cases h), fun Γ W tg ex g0 h => (by cases h)⟩
    obtain ⟨x, ps, ys, pos, rfl, h⟩ := asCmp_i h
    obtain ⟨p, rfl, h⟩ := as1_i h
    obtain ⟨y, rfl, h⟩ := as1_i h
    obtain ⟨h0, h⟩ := and2 h
    obtain ⟨h1, h⟩ := and2 h
    obtain ⟨h2, h3⟩ := and2 h
    cases of_decide_eq_true h0
    have q := se_cmp (pos := pos) (o := o) (not_t h1) (iha.1 Γ W x g0 h2).1 (ihb.1 Γ W y g0 h3).1
    exact ⟨q.1, fun _ => q.2⟩
  | cmp2 o o2 a b c iha ihb ihc =>
    refine ⟨fun Γ W ex g0 h => ?_, fun Γ W es g0 h => (by cases h), fun Γ W tg ex g0 h => (by cases h)⟩
    obtain ⟨x, ps, ys, pos, rfl, h⟩ := asCmp_i h
    obtain ⟨p, r, rfl, h⟩ := as2_i h
    obtain ⟨y, z, rfl, h⟩ := as2_i h
    obtain ⟨h0, h⟩ := and2 h
    obtain ⟨h00, h⟩ := and2 h
    obtain ⟨h1, h⟩ := and2 h
    obtain ⟨h2, h⟩ := and2 h
    obtain ⟨h3, h4⟩ := and2 h
    cases of_decide_eq_true h0
    cases of_decide_eq_true h00
    have q := se_cmp2 (pos := pos) (o := o) (p := o2) (not_t h1) (iha.1 Γ W x g0 h2).1 (ihb.1 Γ W y g0 h3).1 (ihc.1 Γ W z g0 h4).1
    exact ⟨q.1, fun _ => q.2⟩
  | and a b iha ihb =>
    refine ⟨fun Γ W ex g0 h => ?_, fun Γ W es g0 h => (by cases h), fun Γ W tg ex g0 h => (by cases h)⟩
    obtain ⟨o, es, pos, rfl, h⟩ := asBoo_i h
    obtain ⟨h0, h⟩ := and2 h
    cases of_decide_eq_true h0
    obtain ⟨x, r, rfl, h⟩ := asC_i h
    obtain ⟨h1, h⟩ := and2 h
    obtain ⟨y, r2, rfl, h⟩ := asC_i h
    cases r2 with
    | nil =>
      exact ⟨se_and (iha.1 Γ W x g0 h1).1 (se_one (ihb.1 Γ W y g0 h).1), fun k => by
        obtain ⟨k1, k2⟩ := and2 k
        exact (sw_and ((iha.1 Γ W x g0 h1).2 k1) (sw_and1 ((ihb.1 Γ W y g0 h).2 k2))).st⟩
    | cons z r3 =>
      exact ⟨se_and (iha.1 Γ W x g0 h1).1 (ihb.1 Γ W _ g0 h).1, fun k => by
        obtain ⟨k1, k2⟩ := and2 k
        exact (sw_and ((iha.1 Γ W x g0 h1).2 k1) (sw_boo ((ihb.1 Γ W _ g0 h).2 k2))).st⟩
  | or a b iha ihb =>
    refine ⟨fun Γ W ex g0 h => ?_, fun Γ W es g0 h => (by cases h), fun Γ W tg ex g0 h => (by cases h)⟩
    obtain ⟨o, es, pos, rfl, h⟩ := asBoo_i h
    obtain ⟨h0, h⟩ := and2 h
    cases of_decide_eq_true h0
    obtain ⟨x, r, rfl, h⟩ := asC_i h
    obtain ⟨h1, h⟩ := and2 h
    obtain ⟨y, r2, rfl, h⟩ := asC_i h
    cases r2 with
    | nil =>
      exact ⟨se_or (iha.1 Γ W x g0 h1).1 (se_one (ihb.1 Γ W y g0 h).1), fun k => by
        obtain ⟨k1, k2⟩ := and2 k
        exact (sw_or ((iha.1 Γ W x g0 h1).2 k1) (sw_or1 ((ihb.1 Γ W y g0 h).2 k2))).st⟩
    | cons z r3 =>
      exact ⟨se_or (iha.1 Γ W x g0 h1).1 (ihb.1 Γ W _ g0 h).1, fun k => by
        obtain ⟨k1, k2⟩ := and2 k
        exact (sw_or ((iha.1 Γ W x g0 h1).2 k1) (sw_boo ((ihb.1 Γ W _ g0 h).2 k2))).st⟩
  | not a ih =>
    refine ⟨fun Γ W ex g0 h => ?_, fun Γ W es g0 h => (by cases h), fun Γ W tg ex g0 h => (by cases h)⟩
    obtain ⟨p, x, pos, rfl, h⟩ := asUn_i h
    obtain ⟨h0, h⟩ := and2 h
    cases of_decide_eq_true h0
    exact ⟨se_not (ih.1 Γ W x g0 h).1, fun k => st_not ((ih.1 Γ W x g0 h).2 k)⟩
  | ite c a b ihc iha ihb =>
    refine ⟨fun Γ W ex g0 h => ?_, fun Γ W es g0 h => (by cases h), fun Γ W tg ex g0 h => (by cases h)⟩
    obtain ⟨x, y, z, pos, rfl, h⟩ := asIf_i h
    obtain ⟨h0, h⟩ := and2 h
    obtain ⟨h1, h⟩ := and2 h
    obtain ⟨h2, h3⟩ := and2 h
    exact ⟨se_ite ((ihc.1 Γ W x g0 h1).2 h0) (iha.1 Γ W y g0 h2).1 (ihb.1 Γ W z g0 h3).1, fun k => by cases k⟩
  | call f io a ih =>
    refine ⟨fun Γ W ex g0 h => ?_, fun Γ W es g0 h => (by cases h), fun Γ W tg ex g0 h => (by cases h)⟩
    obtain ⟨x, q, es, pos, rfl, k⟩ := asCall_i h
    obtain ⟨h0, k0⟩ := and2 k
    obtain ⟨h1, k1⟩ := and2 k0
    cases hf : Γ.fns[f]? with
    | none => rw [hf] at h1; cases h1
    | some fi =>
      rw [hf] at h1
      obtain ⟨h2, h3⟩ := and2 h1
      have hx : fi.name = x := of_decide_eq_true h2
      rw [← hx] at h0 ⊢
      cases io with
      | none =>
        obtain ⟨ey, er, he, k2⟩ := asC_i k1
        rw [he]
        obtain ⟨k3, k4⟩ := and2 k2
        have s : SE RX Γ C gv K W (.Call (.Name fi.name q) (ey :: er) [] pos) (den C (.call f none a)) := se_call g0 hf h0 k3 (ih.2.1 Γ W _ g0 k4)
        exact ⟨s, fun _ => s.test fun _ _ => rfl⟩
      | some i =>
        obtain ⟨ey, er, he, k2⟩ := asC_i k1
        rw [he]
        obtain ⟨k3, k4⟩ := and2 k2
        obtain ⟨k5, k6⟩ := and2 k4
        obtain ⟨n, pn, hey, k7⟩ := asName_i k6
        rw [hey]
        obtain ⟨k8, k9⟩ := and2 k7
        have s : SE RX Γ C gv K W (.Call (.Name fi.name q) (.Name n pn :: er) [] pos) (den C (.call f (some i) a)) := se_callIo g0 hf h0 (of_decide_eq_true k8) k9 k3 (ih.2.1 Γ W _ g0 k5)
        exact ⟨s, fun _ => s.test fun _ _ => rfl⟩
  | ix a b iha ihb =>
    refine ⟨fun Γ W ex g0 h => ?_, fun Γ W es g0 h => (by cases h), fun Γ W tg ex g0 h => (by cases h)⟩
    obtain ⟨x, y, pos, rfl, h⟩ := asSub_i h
    obtain ⟨h0, h⟩ := and2 h
    obtain ⟨h1, h2⟩ := and2 h
    have s : SE RX Γ C gv K W (.Subscript x y pos) (den C (.ix a b)) := se_ix (not_t h0) (iha.1 Γ W x g0 h1).1 (ihb.1 Γ W y g0 h2).1
    exact ⟨s, fun _ => s.test fun _ _ => rfl⟩
  | oix i b ih =>
    refine ⟨fun Γ W ex g0 h => ?_, fun Γ W es g0 h => (by cases h), fun Γ W tg ex g0 h => (by cases h)⟩
    obtain ⟨x, y, pos, rfl, h⟩ := asSub_i h
    obtain ⟨h0, h⟩ := and2 h
    obtain ⟨h1, h⟩ := and2 h
    obtain ⟨n, pn, rfl, h⟩ := asName_i h
    obtain ⟨k3, k4⟩ := and2 h
    have s : SE RX Γ C gv K W (.Subscript (.Name n pn) y pos) (den C (.oix i b)) := se_oix (of_decide_eq_true k3) k4 (not_t h0) (ih.1 Γ W y g0 h1).1
    exact ⟨s, fun _ => s.test fun _ _ => rfl⟩
  | sl a lo hi iha ihl ihh =>
    refine ⟨fun Γ W ex g0 h => ?_, fun Γ W es g0 h => (by cases h), fun Γ W tg ex g0 h => (by cases h)⟩
    obtain ⟨x, y, pos, rfl, h⟩ := asSub_i h
    obtain ⟨h1, h⟩ := and2 h
    obtain ⟨l, u, p2, rfl, h⟩ := asSl_i h
    obtain ⟨h2, h3⟩ := and2 h
    have s : SE RX Γ C gv K W (.Subscript x (.Slice l u none p2) pos) (den C (.sl a lo hi)) := se_sl (iha.1 Γ W x g0 h1).1 (part_ok g0 ihl h2) (part_ok g0 ihh h3)
    exact ⟨s, fun _ => s.test fun _ _ => rfl⟩
  | prim p a ih =>
    refine ⟨fun Γ W ex g0 h => ?_, fun Γ W es g0 h => (by cases h), fun Γ W tg ex g0 h => (by cases h)⟩
    obtain ⟨x, q, es, pos, rfl, k⟩ := asCall_i h
    obtain ⟨h0, k1⟩ := and2 k
    obtain ⟨h1, k2⟩ := and2 k1
    obtain ⟨h2, k3⟩ := and2 k2
    obtain ⟨y, rfl, k4⟩ := as1_i k3
    cases of_decide_eq_true h1
    have hs : isStar y = false := by
      cases a with
      | cons a1 a2 =>
        obtain ⟨_, _, e, k5⟩ := asC_i k4
        cases e
        exact not_t (and2 k5).1
      | _ => cases k4
    have s : SE RX Γ C gv K W (.Call (.Name p.name q) [y] [] pos) (den C (.prim p a)) := se_prim h2 h0 hs (ih.2.1 Γ W _ g0 k4)
    exact ⟨s, fun _ => s.test fun _ _ => rfl⟩
  | prim2 p a b iha ihb =>
    refine ⟨fun Γ W ex g0 h => ?_, fun Γ W es g0 h => (by cases h), fun Γ W tg ex g0 h => (by cases h)⟩
    obtain ⟨x, q, es, pos, rfl, h⟩ := asCall_i h
    obtain ⟨h0, h⟩ := and2 h
    obtain ⟨h1, h⟩ := and2 h
    obtain ⟨y, z, rfl, h⟩ := as2_i h
    obtain ⟨h2, h⟩ := and2 h
    obtain ⟨h3, h⟩ := and2 h
    obtain ⟨h4, h5⟩ := and2 h
    cases of_decide_eq_true h1
    have s : SE RX Γ C gv K W (.Call (.Name p.name q) [y, z] [] pos) (den C (.prim2 p a b)) := se_prim2 h0 (not_t h2) (not_t h3) (iha.1 Γ W y g0 h4).1 (ihb.1 Γ W z g0 h5).1
    exact ⟨s, fun _ => s.test fun _ _ => rfl⟩
  | rev a ih =>
    refine ⟨fun Γ W ex g0 h => ?_, fun Γ W es g0 h => (by cases h), fun Γ W tg ex g0 h => (by cases h)⟩
    obtain ⟨x, y, pos, rfl, h⟩ := asSub_i h
    obtain ⟨h0, h1⟩ := and2 h
    obtain ⟨k, p1, p2, p3, rfl⟩ := isRevSl_i h0
    have s : SE RX Γ C gv K W (.Subscript x (.Slice none none (some (.UnaryOp .USub (.Constant (.int 1) k p1) p2)) p3) pos) (den C (.rev a)) := se_rev (ih.1 Γ W x g0 h1).1
    exact ⟨s, fun _ => s.test fun _ _ => rfl⟩
  | isi p a ih =>
    refine ⟨fun Γ W ex g0 h => ?_, fun Γ W es g0 h => (by cases h), fun Γ W tg ex g0 h => (by cases h)⟩
    obtain ⟨x, q, es, pos, rfl, h⟩ := asCall_i h
    obtain ⟨h0, h⟩ := and2 h
    obtain ⟨h1, h⟩ := and2 h
    obtain ⟨y, z, rfl, h⟩ := as2_i h
    obtain ⟨h2, h⟩ := and2 h
    obtain ⟨h3, h4⟩ := and2 h
    cases of_decide_eq_true h1
    have s : SE RX Γ C gv K W (.Call (.Name "isinstance" q) [y, z] [] pos) (den C (.isi p a)) := se_isi h0 (not_t h2) h4 (ih.1 Γ W _ g0 h3).1
    exact ⟨s, fun _ => s.test fun _ _ => rfl⟩
  | olen i =>
    refine ⟨fun Γ W ex g0 h => ?_, fun Γ W es g0 h => (by cases h), fun Γ W tg ex g0 h => (by cases h)⟩
    obtain ⟨x, q, es, pos, rfl, h⟩ := asCall_i h
    obtain ⟨h0, h⟩ := and2 h
    obtain ⟨h1, h⟩ := and2 h
    obtain ⟨y, rfl, h⟩ := as1_i h
    obtain ⟨n, pn, rfl, h⟩ := asName_i h
    obtain ⟨k3, k4⟩ := and2 h
    cases of_decide_eq_true h0
    have s : SE RX Γ C gv K W (.Call (.Name "len" q) [.Name n pn] [] pos) (den C (.olen i)) := se_olen h1 (of_decide_eq_true k3) k4
    exact ⟨s, fun _ => s.test fun _ _ => rfl⟩
  | lc vs t src cond elt ihs ihc ihe =>
    refine ⟨fun Γ W ex g0 h => ?_, fun Γ W es g0 h => (by cases h), fun Γ W tg ex g0 h => (by cases h)⟩
    obtain ⟨x, tg, it, ifs, scope, pos, rfl, h⟩ := asComp_i h
    obtain ⟨h0, h⟩ := and2 h
    obtain ⟨h1, h⟩ := and2 h
    obtain ⟨h2, h⟩ := and2 h
    obtain ⟨h3, h⟩ := and2 h
    obtain ⟨h4, h⟩ := and2 h
    obtain ⟨h5, h6⟩ := and2 h
    have hc : SC RX (Γ.blk scope) C gv K W0 ifs (den C cond) := by
      cases ifs with
      | nil =>
        cases yesB_i h6
        exact sc_nil
      | cons c r =>
        obtain ⟨c', e, h6⟩ := as1_i h6
        rw [e]
        obtain ⟨k1, k2⟩ := and2 h6
        exact sc_one ((ihc.1 (Γ.blk scope) W0 c' g0.blk k1).2 k2)
    have s : SE RX Γ C gv K W (.ListComp x [⟨tg, it, ifs, 0⟩] scope pos) (den C (.lc vs t src cond elt)) :=
      (sf_lc h0 (not_t h1) h4 (ihs.2.2 Γ W tg it g0 h2) ((tg_ok t).1 tg h3) hc (ihe.1 (Γ.blk scope) W0 x g0.blk h5).1).se fun _ => lcF_lst
    exact ⟨s, fun _ => s.test fun _ _ => rfl⟩
  | lc2 vs t src cond vs1 t1 src1 cond1 elt ihs ihc ihs1 ihc1 ihe =>
    refine ⟨fun Γ W ex g0 h => ?_, fun Γ W es g0 h => (by cases h), fun Γ W tg ex g0 h => (by cases h)⟩
    obtain ⟨x, tg, it, ifs, tg1, it1, ifs1, scope, pos, rfl, h⟩ := asComp2_i h
    obtain ⟨h0, h⟩ := and2 h
    obtain ⟨h1, h⟩ := and2 h
    obtain ⟨h1', h⟩ := and2 h
    obtain ⟨h2, h⟩ := and2 h
    obtain ⟨h3, h⟩ := and2 h
    obtain ⟨h4, h⟩ := and2 h
    obtain ⟨k2, h⟩ := and2 h
    obtain ⟨k3, h⟩ := and2 h
    obtain ⟨k4, h⟩ := and2 h
    obtain ⟨k5, h⟩ := and2 h
    obtain ⟨h5, h⟩ := and2 h
    obtain ⟨h6, h7⟩ := and2 h
    have hc : SC RX (Γ.blk scope) C gv K W0 ifs (den C cond) := by
      cases ifs with
      | nil =>
        cases yesB_i h6
        exact sc_nil
      | cons c r =>
        obtain ⟨c', e, h6⟩ := as1_i h6
        rw [e]
        obtain ⟨k1, k2⟩ := and2 h6
        exact sc_one ((ihc.1 (Γ.blk scope) W0 c' g0.blk k1).2 k2)
    have hc1 : SC RX (Γ.blk scope) C gv K W0 ifs1 (den C cond1) := by
      cases ifs1 with
      | nil =>
        cases yesB_i h7
        exact sc_nil
      | cons c r =>
        obtain ⟨c', e, h7⟩ := as1_i h7
        rw [e]
        obtain ⟨k1, k2⟩ := and2 h7
        exact sc_one ((ihc1.1 (Γ.blk scope) W0 c' g0.blk k1).2 k2)
    have s : SE RX Γ C gv K W (.ListComp x [⟨tg, it, ifs, 0⟩, ⟨tg1, it1, ifs1, 0⟩] scope pos) (den C (.lc2 vs t src cond vs1 t1 src1 cond1 elt)) :=
      (sf_lc2 h0 (not_t h1) (not_t h1') h4 k4 k5 (ihs.2.2 Γ W tg it g0 h2) ((tg_ok t).1 tg h3) hc (ihs1.2.2 (Γ.blk scope) W0 tg1 it1 g0.blk k2) ((tg_ok t1).1 tg1 k3) hc1 (ihe.1 (Γ.blk scope) W0 x g0.blk h5).1).se fun _ => lc2F_lst
    exact ⟨s, fun _ => s.test fun _ _ => rfl⟩
  | lend i a ih =>
    refine ⟨fun Γ W ex g0 h => ?_, fun Γ W es g0 h => (by cases h), fun Γ W tg ex g0 h => (by cases h)⟩
    obtain ⟨h1, h2⟩ := and2 (show (slB a && mE Γ a ex) = true from h)
    exact ⟨se_lend (den_kp C a h1).1 (ih.1 Γ W ex g0 h2).1, fun k => st_lend (den_kp C a h1).1 ((ih.1 Γ W ex g0 h2).2 k)⟩
  | nil =>
    refine ⟨fun Γ W ex g0 h => (by cases h), fun Γ W es g0 h => ?_, fun Γ W tg ex g0 h => (by cases h)⟩
    cases es with
    | nil => exact sl_nil
    | cons _ _ => cases h
  | cons a as iha ihas =>
    refine ⟨fun Γ W ex g0 h => (by cases h), fun Γ W es g0 h => ?_, fun Γ W tg ex g0 h => (by cases h)⟩
    obtain ⟨x, r, rfl, h⟩ := asC_i h
    obtain ⟨h1, h⟩ := and2 h
    obtain ⟨h2, h3⟩ := and2 h
    exact sl_cons (not_t h1) (iha.1 Γ W x g0 h2).1 (ihas.2.1 Γ W r g0 h3)
  | items a ih =>
    refine ⟨fun Γ W ex g0 h => (by cases h), fun Γ W es g0 h => (by cases h), fun Γ W tg ex g0 h => ?_⟩
    exact si_items (ih.1 Γ W ex g0 h).1
  | rng1 a ih =>
    refine ⟨fun Γ W ex g0 h => (by cases h), fun Γ W es g0 h => (by cases h), fun Γ W tg ex g0 h => ?_⟩
    obtain ⟨x, q, es, pos, rfl, h⟩ := asCall_i h
    obtain ⟨h0, h⟩ := and2 h
    obtain ⟨h1, h⟩ := and2 h
    obtain ⟨y, rfl, h⟩ := as1_i h
    obtain ⟨h2, h3⟩ := and2 h
    cases of_decide_eq_true h0
    exact si_rng1 h1 (not_t h2) (ih.1 Γ W y g0 h3).1
  | rng2 a b iha ihb =>
    refine ⟨fun Γ W ex g0 h => (by cases h), fun Γ W es g0 h => (by cases h), fun Γ W tg ex g0 h => ?_⟩
    obtain ⟨x, q, es, pos, rfl, h⟩ := asCall_i h
    obtain ⟨h0, h⟩ := and2 h
    obtain ⟨h1, h⟩ := and2 h
    obtain ⟨y, z, rfl, h⟩ := as2_i h
    obtain ⟨h2, h⟩ := and2 h
    obtain ⟨h3, h⟩ := and2 h
    obtain ⟨h4, h5⟩ := and2 h
    cases of_decide_eq_true h0
    exact si_rng2 h1 (not_t h2) (not_t h3) (iha.1 Γ W y g0 h4).1 (ihb.1 Γ W z g0 h5).1
end
end Ev
set_option Elab.async false
set_option linter.all false
set_option maxRecDepth 100000
set_option maxHeartbeats 4000000
set_option autoImplicit false
/-! Ev11: statements: forms, what is wanted behind them, rules. -/
namespace Ev
open PySem PySem.Spec PyProof.Rows L2
/-! ### forms -/
def asExp (s : PySem.Stmt) (k : PySem.Expr → Pos → Bool) : Bool := match s with
  | .Expr e p => k e p
  | _ => false
def asAsg (s : PySem.Stmt) (k : PySem.Expr → PySem.Expr → Pos → Bool) : Bool := match s with
  | .Assign [t] e p => k t e p
  | _ => false
def asAug (s : PySem.Stmt) (k : PySem.Expr → Operator → PySem.Expr → Bool) : Bool := match s with
  | .AugAssign t o e _ => k t o e
  | _ => false
def asRet (s : PySem.Stmt) (k : PySem.Expr → Bool) : Bool := match s with
  | .Return (some e) _ => k e
  | _ => false
def isRetN : PySem.Stmt → Bool
  | .Return none _ => true
  | _ => false
def asIfS (s : PySem.Stmt) (k : PySem.Expr → List PySem.Stmt → List PySem.Stmt → Bool) : Bool := match s with
  | .If c a b _ => k c a b
  | _ => false
def asWhl (s : PySem.Stmt) (k : PySem.Expr → List PySem.Stmt → Bool) : Bool := match s with
  | .While c a [] _ => k c a
  | _ => false
def asFor (s : PySem.Stmt) (k : PySem.Expr → PySem.Expr → List PySem.Stmt → Bool) : Bool := match s with
  | .For t i a [] _ => k t i a
  | _ => false
def isPass : PySem.Stmt → Bool
  | .Pass _ => true
  | .Expr (.Constant (.str _) _ _) _ => true
  | _ => false
def isBrk : PySem.Stmt → Bool
  | .Break _ => true
  | _ => false
def isCnt : PySem.Stmt → Bool
  | .Continue _ => true
  | _ => false
/-- a call of a name's method, no keywords -/
def asMeth (e : PySem.Expr) (k : Str → Str → List PySem.Expr → Bool → Bool) : Bool := match e with
  | .Call (.Attribute (.Name x _) m ap) es [] cp => k x m es (ap.endLine == cp.line)
  | _ => false
def asNameP (e : PySem.Expr) (k : Str → Pos → Bool) : Bool := match e with
  | .Name x p => k x p
  | _ => false
def asTup2 (e : PySem.Expr) (k : PySem.Expr → PySem.Expr → Bool) : Bool := asTup e fun es => as2 es k
def as3 {a : Type} (l : List a) (k : a → a → a → Bool) : Bool := match l with
  | [x, y, z] => k x y z
  | _ => false
theorem asExp_i {s : PySem.Stmt} {k : PySem.Expr → Pos → Bool} (h : asExp s k = true) : ∃ e p, s = .Expr e p ∧ k e p = true := by
  cases s <;> first | exact ⟨_, _, rfl, h⟩ | cases h
theorem asAsg_i {s : PySem.Stmt} {k : PySem.Expr → PySem.Expr → Pos → Bool} (h : asAsg s k = true) : ∃ t e p, s = .Assign [t] e p ∧ k t e p = true := by
  cases s with
  | Assign ts e p =>
    match ts, h with
    | [t], h => exact ⟨t, e, p, rfl, h⟩
  | _ => cases h
theorem asAug_i {s : PySem.Stmt} {k : PySem.Expr → Operator → PySem.Expr → Bool} (h : asAug s k = true) : ∃ t o e p, s = .AugAssign t o e p ∧ k t o e = true := by
  cases s <;> first | exact ⟨_, _, _, _, rfl, h⟩ | cases h
theorem asRet_i {s : PySem.Stmt} {k : PySem.Expr → Bool} (h : asRet s k = true) : ∃ e p, s = .Return (some e) p ∧ k e = true := by
  cases s with
  | Return v p => cases v with
    | some e => exact ⟨e, p, rfl, h⟩
    | none => cases h
  | _ => cases h
theorem isRetN_i {s : PySem.Stmt} (h : isRetN s = true) : ∃ p, s = .Return none p := by
  cases s with
  | Return v p => cases v with
    | none => exact ⟨p, rfl⟩
    | some e => cases h
  | _ => cases h
theorem asIfS_i {s : PySem.Stmt} {k : PySem.Expr → List PySem.Stmt → List PySem.Stmt → Bool} (h : asIfS s k = true) : ∃ c a b p, s = .If c a b p ∧ k c a b = true := by
  cases s <;> first | exact ⟨_, _, _, _, rfl, h⟩ | cases h
theorem asWhl_i {s : PySem.Stmt} {k : PySem.Expr → List PySem.Stmt → Bool} (h : asWhl s k = true) : ∃ c a p, s = .While c a [] p ∧ k c a = true := by
  cases s with
  | While c a b p => cases b with
    | nil => exact ⟨_, _, _, rfl, h⟩
    | cons _ _ => cases h
  | _ => cases h
theorem asFor_i {s : PySem.Stmt} {k : PySem.Expr → PySem.Expr → List PySem.Stmt → Bool} (h : asFor s k = true) : ∃ t i a p, s = .For t i a [] p ∧ k t i a = true := by
  cases s with
  | For t i a b p => cases b with
    | nil => exact ⟨_, _, _, _, rfl, h⟩
    | cons _ _ => cases h
  | _ => cases h
theorem asMeth_i {e : PySem.Expr} {k : Str → Str → List PySem.Expr → Bool → Bool} (h : asMeth e k = true) : ∃ x xp m ap es cp, e = .Call (.Attribute (.Name x xp) m ap) es [] cp ∧ k x m es (ap.endLine == cp.line) = true := by
  cases e with
  | Call f es ks cp =>
    cases f with
    | Attribute o m ap =>
      cases o with
      | Name x xp => cases ks with
        | nil => exact ⟨_, _, _, _, _, _, rfl, h⟩
        | cons _ _ => cases h
      | _ => cases h
    | _ => cases h
  | _ => cases h
theorem asNameP_i {e : PySem.Expr} {k : Str → Pos → Bool} (h : asNameP e k = true) : ∃ x p, e = .Name x p ∧ k x p = true := by
  cases e <;> first | exact ⟨_, _, rfl, h⟩ | cases h
theorem as3_i {a : Type} {l : List a} {k : a → a → a → Bool} (h : as3 l k = true) : ∃ x y z, l = [x, y, z] ∧ k x y z = true := by
  match l, h with
  | [x, y, z], h => exact ⟨x, y, z, rfl, h⟩
def isComp : PySem.Expr → Bool
  | .ListComp _ _ _ _ => true
  | .SetComp _ _ _ _ => true
  | .DictComp _ _ _ _ _ => true
  | _ => false
def isTup : PySem.Expr → Bool
  | .Tuple _ _ _ => true
  | _ => false
def lcB : Ex → Bool
  | .lc _ _ _ _ _ => true
  | .lc2 _ _ _ _ _ _ _ _ _ => true
  | _ => false
/-- what makes a new list -/
def newB : Ex → Bool
  | .lst _ => true
  | .lc _ _ _ _ _ => true
  | .lc2 _ _ _ _ _ _ _ _ _ => true
  | _ => false
theorem swaps_no {e : PySem.Expr} {t : Option PySem.Expr} {l : Nat} {env : PySem.Env} (h : isComp e = false) : swapsWith e t l env = pure false := by
  cases e <;> first | rfl | cases h
/-- a comprehension that is stored into a name of its line -/
def swB (Γ : Gam) (y : Str) (py : Pos) (e : PySem.Expr) : Bool := match e with
  | .ListComp _ _ scope pos => decide (Γ.sc.names.lookup y = some .local) && ((py.line == pos.line) && !(scope.names.any fun (n, k) => n == y && (k == .local || k == .cell)))
  | _ => false
theorem sw_tup {e : PySem.Expr} {ts : List PySem.Expr} {k l : Nat} {p : Pos} {env : PySem.Env} : swapsWith e (some (.Tuple ts k p)) l env = pure false := by
  cases e <;> rfl
theorem sw_cell {Γ : Gam} {e : PySem.Expr} {n : Str} {l : Nat} {py : Pos} {env : PySem.Env} (hsc : env.scope = Γ.sc) (h : (!decide (Γ.sc.names.lookup n = some .local)) = true) : swapsWith e (some (.Name n py)) l env = pure false := by
  have h : Γ.sc.names.lookup n ≠ some .local := by simpa using h
  have k : (env.kindOf n == some NameKind.local) = false := by
    show (env.scope.names.lookup n == _) = false
    rw [hsc]
    exact beq_eq_false_iff_ne.mpr h
  cases e <;> first
    | rfl
    | (unfold swapsWith; simp [k])
/-- no store within the comprehension -/
def swF (Γ : Gam) (tg e : PySem.Expr) : Bool := !isComp e || (isTup tg || asName tg fun n => !decide (Γ.sc.names.lookup n = some .local))
theorem swF_no {Γ : Gam} {tg e : PySem.Expr} {l : Nat} {env : PySem.Env} (hsc : env.scope = Γ.sc) (h : swF Γ tg e = true) : swapsWithSole [tg] e l env = pure false := by
  show swapsWith e (some tg) l env = pure false
  unfold swF at h
  rw [Bool.or_eq_true, Bool.or_eq_true] at h
  rcases h with h | h | h
  · exact swaps_no (by simpa using h)
  · cases tg <;> first | exact sw_tup | cases h
  · obtain ⟨n, p, rfl, h⟩ := asName_i h
    exact sw_cell hsc h
/-- stored from the right -/
def sw2B (px py : Pos) (es : List PySem.Expr) : Bool := (py.line == px.line) && (!(es.all (foldedForSure 8)) && (!(es.all (constantsAlone 8)) && noStar es))
theorem no_star_any {es : List PySem.Expr} (h : noStar es = true) : (es.any fun | .Starred .. => true | _ => false) = false := by
  rw [List.any_eq_false]
  intro x hx
  unfold noStar at h
  have := List.all_eq_true.mp h x hx
  cases x <;> first | (intro z; cases z; done) | cases this
theorem sw2_ok {env : PySem.Env} {x y : Str} {px py pt pt2 : Pos} {kt k2 : Nat} {a b : PySem.Expr} (hk : env.scope.kind = .function) (hx : env.scope.names.lookup x = some .local) (hy : env.scope.names.lookup y = some .local) (hne : x ≠ y)
    (h : sw2B px py [a, b] = true) : swappedStores [.Tuple [.Name x px, .Name y py] kt pt] (.Tuple [a, b] k2 pt2) env = pure (some [x, y]) := by
  unfold sw2B at h
  simp only [Bool.and_eq_true, Bool.not_eq_true'] at h
  obtain ⟨h1, h2, h3, h4⟩ := h
  have kx : (env.kindOf x == some NameKind.local) = true := by show (env.scope.names.lookup x == _) = true; rw [hx]; rfl
  have ky : (env.kindOf y == some NameKind.local) = true := by show (env.scope.names.lookup y == _) = true; rw [hy]; rfl
  have hb : env.blockKind = .function := by unfold Env.blockKind; rw [hk]; rfl
  have hsx : ((px.line : Nat) == px.line) = true := by simp
  have hxy : (y == x) = false := by simpa using Ne.symm hne
  have hd : ([x, y] : List Str).eraseDups = [x, y] := by
    simp [List.eraseDups_cons, hne, Ne.symm hne, hxy]
  unfold swappedStores
  have l1 : (Option.map (fun e : PySem.Expr => e.pos.line) [PySem.Expr.Name x px, PySem.Expr.Name y py].head?).getD 0 = px.line := rfl
  simp only [hb, kx, ky, h1, h2, h3, hsx, l1, Bool.true_and, ↓reduceIte, List.filterMap_cons, List.filterMap_nil, List.length_cons, List.length_nil, hd]
  refine Eq.trans (if_neg Bool.false_ne_true) (Eq.trans (if_neg fun z => Bool.false_ne_true ((no_star_any h4).symm.trans z)) ?_)
  rfl
theorem sw3_ok {env : PySem.Env} {x y z : Str} {px py pz pt pt2 : Pos} {kt k2 : Nat} {a b c : PySem.Expr} (hk : env.scope.kind = .function) (hx : env.scope.names.lookup x = some .local) (hy : env.scope.names.lookup y = some .local) (hz : env.scope.names.lookup z = some .local) (hxy : x ≠ y) (hxz : x ≠ z) (hyz : y ≠ z)
    (h : sw2B px py [a, b, c] = true) (hp : (pz.line == px.line) = true) : swappedStores [.Tuple [.Name x px, .Name y py, .Name z pz] kt pt] (.Tuple [a, b, c] k2 pt2) env = pure (some [x, y, z]) := by
  unfold sw2B at h
  simp only [Bool.and_eq_true, Bool.not_eq_true'] at h
  obtain ⟨h1, h2, h3, h4⟩ := h
  have kx : (env.kindOf x == some NameKind.local) = true := by show (env.scope.names.lookup x == _) = true; rw [hx]; rfl
  have ky : (env.kindOf y == some NameKind.local) = true := by show (env.scope.names.lookup y == _) = true; rw [hy]; rfl
  have kz : (env.kindOf z == some NameKind.local) = true := by show (env.scope.names.lookup z == _) = true; rw [hz]; rfl
  have hb : env.blockKind = .function := by unfold Env.blockKind; rw [hk]; rfl
  have hsx : ((px.line : Nat) == px.line) = true := by simp
  have e1 : (y == x) = false := by simpa using Ne.symm hxy
  have e2 : (z == x) = false := by simpa using Ne.symm hxz
  have e3 : (z == y) = false := by simpa using Ne.symm hyz
  have hd : ([x, y, z] : List Str).eraseDups = [x, y, z] := by
    simp [List.eraseDups_cons, e1, e2, e3]
  unfold swappedStores
  have l1 : (Option.map (fun e : PySem.Expr => e.pos.line) [PySem.Expr.Name x px, PySem.Expr.Name y py, PySem.Expr.Name z pz].head?).getD 0 = px.line := rfl
  simp only [hb, kx, ky, kz, h1, h2, h3, hp, hsx, l1, Bool.true_and, ↓reduceIte, List.filterMap_cons, List.filterMap_nil, List.length_cons, List.length_nil, hd]
  refine Eq.trans (if_neg Bool.false_ne_true) (Eq.trans (if_neg fun z => Bool.false_ne_true ((no_star_any h4).symm.trans z)) ?_)
  rfl
theorem swl_ok {Γ : Gam} {env : PySem.Env} {y : Str} {py : Pos} {e : PySem.Expr} {l : Nat} (hsc : env.scope = Γ.sc) (hk : Γ.sc.kind = .function) (h : swB Γ y py e = true) : swapsWith e (some (.Name y py)) l env = pure true ∧ env.scope.names.lookup y = some .local := by
  unfold swB at h
  split at h
  · obtain ⟨h1, h2⟩ := and2 h
    obtain ⟨h2, h3⟩ := and2 h2
    have h1 := of_decide_eq_true h1
    exact ⟨sw_true (by rw [hsc]; exact hk) (by rw [hsc]; exact h1) h2 (not_t h3), by rw [hsc]; exact h1⟩
  · cases h
/-! ### what is wanted behind a statement -/
section
variable (RX : RXT) (K : PySem.W.Frag) (W : WX)
def FlP (B : Addr → Prop) (e : Env) (σ : L2.St) (H : Hp) (D : Ends) : Fl → Prop
  | .nx => D.nx σ H
  | .bk => D.bk σ H
  | .ct => D.ct σ H
  | .rt d => ∀ v, Rp K (Of B e σ) H d v → D.rt v H
def PostS (io : Bool) (B : Addr → Prop) (e : Env) (σ : L2.St) (H : Hp) (r : R Fl) (D : Ends) : Prop := match r with
  | .ok fl e' => ∀ σ' H', RSt K B H' e' σ' → Stp H e σ H' e' σ' → (io = true → σ'[0]? = σ[0]?) → FlP K B e' σ' H' D fl
  | .ex x e' => ∀ σ' c dd H', RSt K B H' e' σ' → Stp H e σ H' e' σ' → RX x c dd H' → W c dd σ' H'
  | .no => False
end
section
variable {RX : RXT} {K : PySem.W.Frag} {W : WX} {io : Bool} {B : Addr → Prop} {e e1 : Env} {σ σ1 : L2.St} {H H1 : Hp}
theorem PostS.shift {r : R Fl} {D : Ends} (st : Stp H e σ H1 e1 σ1) (hp : io = true → σ1[0]? = σ[0]?) (h : PostS RX K W io B e σ H r D) : PostS RX K W io B e1 σ1 H1 r D := by
  cases r with
  | ok x e' => exact fun σ' H' rs s p => h σ' H' rs (st.trans s) fun z => (p z).trans (hp z)
  | ex x e' => exact fun σ' y dd H' rs s rl => h σ' y dd H' rs (st.trans s) rl
  | no => exact h
theorem PostS.bindE {a b : Type} {Rel : (Addr → Prop) → Hp → a → b → Prop} {r : R a} {f : a → Env → R Fl} {D : Ends} {Q : b → Hp → Prop} (h : PostS RX K W io B e σ H (r.bind f) D)
    (k : ∀ x e1 y H1, r = .ok x e1 → RSt K B H1 e1 σ → Stp H e σ H1 e1 σ → Rel (Of B e1 σ) H1 x y → PostS RX K W io B e1 σ H1 (f x e1) D → Q y H1) : Post RX K W B e σ H Rel r Q := by
  cases r with
  | ok x e1 => exact fun y H1 rs st rl => k x e1 y H1 rfl rs st rl (PostS.shift st (fun _ => rfl) h)
  | ex x e1 => exact fun c dd H' rs st rl => h σ c dd H' rs st rl
  | no => exact h
theorem PostS.bindF {r : R D} {f : D → Env → R Fl} {D : Ends} {Q : VK} (h : PostS RX K W io B e σ H (r.bind f) D) (hl : isLstR r)
    (k : ∀ ds e1 p us H1, H p = none → RSt K (With B p) H1 e1 σ → Stp H e σ H1 e1 σ → H1 p = some (.lst us) → Rps K (Of (With B p) e1 σ) H1 ds us → PostS RX K W io B e σ H (f (.lst ds) e1) D → Q (.ref p) H1) : FPost RX K W B e σ H r Q := by
  cases r with
  | ok x e1 =>
    obtain ⟨ds, rfl⟩ := hl x e1 rfl
    exact fun p us H1 hp rs st hp1 rl => k ds e1 p us H1 hp rs st hp1 rl h
  | ex x e1 => exact fun c dd H' rs st rl => h σ c dd H' rs st rl
  | no => exact h
/-- what comes after a statement -/
theorem PostS.seq {r : R Fl} {g : Env → R Fl} {D D' : Ends} (h : PostS RX K W io B e σ H (r.bind fun f e => match f with
    | .nx => g e
    | f => .ok f e) D) (hr : D'.rt = D.rt) (hb : D'.bk = D.bk) (hc : D'.ct = D.ct) (k : ∀ e1 σ1 H1, RSt K B H1 e1 σ1 → (io = true → σ1[0]? = σ[0]?) → PostS RX K W io B e1 σ1 H1 (g e1) D → D'.nx σ1 H1) : PostS RX K W io B e σ H r D' := by
  cases r with
  | ok fl e1 =>
    intro σ' H' rs st p
    cases fl with
    | nx => exact k e1 σ' H' rs p (PostS.shift (r := g e1) st p h)
    | bk => show D'.bk σ' H'; rw [hb]; exact h σ' H' rs st p
    | ct => show D'.ct σ' H'; rw [hc]; exact h σ' H' rs st p
    | rt d => intro v rv; rw [hr]; exact h σ' H' rs st p v rv
  | ex x e1 => exact h
  | no => exact h
theorem PostS.way {fc : Env → R D} {ga gb : Env → R Fl} {D : Ends} {Q : Bool → Hp → Prop} (h : PostS RX K W io B e σ H ((fc e).bind fun x e => R.way x (ga e) (gb e)) D)
    (k : ∀ b e1 H1, RSt K B H1 e1 σ → PostS RX K W io B e1 σ H1 (if b = true then ga e1 else gb e1) D → Q b H1) : Post RX K W B e σ H eqB (tst fc e) Q := by
  unfold tst
  cases q : fc e with
  | ok d e1 =>
    rw [q] at h
    replace h : PostS RX K W io B e σ H (R.way d (ga e1) (gb e1)) D := h
    show Post RX K W B e σ H eqB (R.of d.tr e1) Q
    unfold R.way at h
    cases z : d.tr with
    | none => rw [z] at h; exact h.elim
    | some b =>
      rw [z] at h
      intro y H1 rs st hy
      have hy : b = y := hy
      subst hy
      refine k b e1 H1 rs (PostS.shift st (fun _ => rfl) ?_)
      cases b with
      | true => exact h
      | false => exact h
  | ex x e1 => rw [q] at h; exact fun c dd H' rs st rl => h σ c dd H' rs st rl
  | no => rw [q] at h; exact h
end
structure OkS (RX : RXT) (Γ : Gam) (C : Ctx) (gv : Nat → V) (X : Cx) (W : WX) : Prop extends Ok RX Γ C gv X W where
  own : PassesOwn (model X.prog X.w) X.A X.env X.xe
section
variable (RX : RXT) (Γ : Gam) (C : Ctx) (gv : Nat → V) (K : PySem.W.Frag) (W : WX) (io : Bool)
def SS (st : PySem.Stmt) (f : Env → R Fl) : Prop := ∃ t, (∀ X, OkS RX Γ C gv X W → X.K = K → PS X st t) ∧ ∀ B e σ H D, RSt K B H e σ → PostS RX K W io B e σ H (f e) D → t D σ H
def SSs (st : List PySem.Stmt) (f : Env → R Fl) : Prop := ∃ t, (∀ X, OkS RX Γ C gv X W → X.K = K → PSs X st t) ∧ ∀ B e σ H D, RSt K B H e σ → PostS RX K W io B e σ H (f e) D → t D σ H
end
section
variable {RX : RXT} {Γ : Gam} {C : Ctx} {gv : Nat → V} {K : PySem.W.Frag} {W : WX} {io : Bool} {pos : Pos} {x y z : PySem.Expr} {fa fb fc : Env → R D} {f g : Env → R Fl} {st : PySem.Stmt} {sts sts2 : List PySem.Stmt}
theorem ss_nil : SSs RX Γ C gv K W io [] fun e => .ok .nx e := ⟨tNext, fun X ok hK => pss_nil, fun B e σ H D rs h => h σ H rs .refl fun _ => rfl⟩
theorem ss_cons (h1 : SS RX Γ C gv K W io st f) (h2 : SSs RX Γ C gv K W io sts g) : SSs RX Γ C gv K W io (st :: sts) fun e => (f e).bind fun fl e => match fl with
    | .nx => g e
    | fl => .ok fl e := by
  obtain ⟨t, p, q⟩ := h1
  obtain ⟨u, p2, q2⟩ := h2
  refine ⟨tSeq t u, fun X ok hK => pss_cons (p X ok hK) (p2 X ok hK), fun B e σ H D rs h => q B e σ H _ rs (PostS.seq h rfl rfl rfl fun e1 σ1 H1 rs1 _ h1 => q2 B e1 σ1 H1 D rs1 h1)⟩
theorem ss_exp (hc : isComp x = false) (ha : SE RX Γ C gv K W x fa) : SS RX Γ C gv K W io (.Expr x pos) fun e => (fa e).bind fun _ e => .ok .nx e := by
  obtain ⟨t, p, q⟩ := ha
  exact ⟨tDrop t, fun X ok hK => ps_expr (p X ok.toOk hK) (swaps_no hc), fun B e σ H D rs h => q B e σ H _ rs (PostS.bindE h fun x e1 y H1 _ rs1 _ _ h1 => h1 σ H1 rs1 .refl fun _ => rfl)⟩
theorem ss_ret (ha : SE RX Γ C gv K W x fa) : SS RX Γ C gv K W io (.Return (some x) pos) fun e => (fa e).bind fun d e => .ok (.rt d) e := by
  obtain ⟨t, p, q⟩ := ha
  exact ⟨tRet t, fun X ok hK => ps_ret (p X ok.toOk hK), fun B e σ H D rs h => q B e σ H _ rs (PostS.bindE h fun x e1 y H1 _ rs1 _ rl h1 => h1 σ H1 rs1 .refl (fun _ => rfl) y rl)⟩
theorem ss_retN : SS RX Γ C gv K W io (.Return none pos) fun e => .ok (.rt .non) e :=
  ⟨tRetN, fun X ok hK => ps_retN, fun B e σ H D rs h => h σ H rs .refl (fun _ => rfl) .non (by unfold Rp; rfl)⟩
theorem ss_pass (h : isPass st = true) : SS RX Γ C gv K W io st fun e => .ok .nx e := by
  refine ⟨tNext, fun X ok hK => ?_, fun B e σ H D rs h => h σ H rs .refl fun _ => rfl⟩
  unfold isPass at h
  split at h
  · exact ps_pass
  · exact ps_doc
  · cases h
theorem ss_brk (h : isBrk st = true) : SS RX Γ C gv K W io st fun e => .ok .bk e := by
  refine ⟨tBreak, fun X ok hK => ?_, fun B e σ H D rs h => h σ H rs .refl fun _ => rfl⟩
  unfold isBrk at h
  split at h
  · exact ps_break
  · cases h
theorem ss_cnt (h : isCnt st = true) : SS RX Γ C gv K W io st fun e => .ok .ct e := by
  refine ⟨tCont, fun X ok hK => ?_, fun B e σ H D rs h => h σ H rs .refl fun _ => rfl⟩
  unfold isCnt at h
  split at h
  · exact ps_continue
  · cases h
theorem ss_never : SS RX Γ C gv K W io st fun _ => .no := ⟨tNever, fun X ok hK => ps_never, fun B e σ H D rs h => h⟩
theorem ss_if (hc : ST RX Γ C gv K W x fc) (ha : SSs RX Γ C gv K W io sts f) (hb : SSs RX Γ C gv K W io sts2 g) : SS RX Γ C gv K W io (.If x sts sts2 pos) fun e => (fc e).bind fun x e => R.way x (f e) (g e) := by
  obtain ⟨t, p, q⟩ := hc
  obtain ⟨u, p2, q2⟩ := ha
  obtain ⟨v, p3, q3⟩ := hb
  refine ⟨tIfS t u v, fun X ok hK => ps_if (p X ok.toOk hK) (p2 X ok hK) (p3 X ok hK), fun B e σ H D rs h => q B e σ H _ rs (PostS.way h fun b e1 H1 rs1 h1 => ?_)⟩
  cases b with
  | true => exact q2 B e1 σ H1 D rs1 h1
  | false => exact q3 B e1 σ H1 D rs1 h1
theorem tgt_pin {t : Tg} {σ σ' : L2.St} (hio : (!(io && t.slots.contains 0)) = true) (h : ∀ j, j ∉ t.slots → σ'[j]? = σ[j]?) (k : io = true) : σ'[0]? = σ[0]? := by
  refine h 0 fun z => ?_
  rw [k] at hio
  simp only [Bool.true_and, Bool.not_eq_true'] at hio
  have := List.contains_iff_mem.mpr z
  rw [hio] at this
  cases this
theorem ss_asg {t : Tg} {tg : PySem.Expr} (hsw : ∀ env l, env.scope = Γ.sc → swapsWithSole [tg] x l env = pure false) (hss : ∀ env, env.scope = Γ.sc → swappedStores [tg] x env = pure none) (hio : (!(io && t.slots.contains 0)) = true) (hst : isStar tg = false) (ha : SE RX Γ C gv K W x fa) (hg : SG RX Γ C gv K W t tg) :
    SS RX Γ C gv K W io (.Assign [tg] x pos) fun e => (fa e).bind fun d e => match bindT t d e with
      | some e => .ok .nx e
      | none => .no := by
  obtain ⟨u, p, q⟩ := ha
  obtain ⟨v, p2, q2⟩ := hg
  refine ⟨tAsg u v, fun X ok hK => ps_asg (p X ok.toOk hK) (p2 X ok.toOk hK) (hsw _ _ ok.hsc) (hss _ ok.hsc) (by rw [each_cons hst]; rfl), fun B e σ H D rs h => q B e σ H _ rs (PostS.bindE h fun d e1 y H1 _ rs1 _ rl h1 => ?_)⟩
  refine q2 B e1 σ H1 d y _ rs1 rl ?_
  cases z : bindT t d e1 with
  | none => rw [z] at h1; exact h1.elim
  | some e2 =>
    rw [z] at h1
    exact fun σ' rs2 st2 o2 => h1 σ' H1 rs2 st2 (tgt_pin hio o2)
/-- name = a new list of its own; name = a comprehension -/
theorem set_pin {σ : L2.St} {i : Nat} {v : Option V} (hio : (!(io && i == 0)) = true) (k : io = true) : (σ.set i v)[0]? = σ[0]? := by
  rw [k] at hio
  rw [List.getElem?_set_ne]
  intro z
  rw [z] at hio
  cases hio
theorem ss_own {i : Nat} {n : Str} {py : Pos} (hi : Γ.N[i]? = some n) (hst : stB Γ n = true) (hsw : (!isComp x || (swB Γ n py x || !decide (Γ.sc.names.lookup n = some .local))) = true) (hio : (!(io && i == 0)) = true) (hl : ∀ e, isLstR (fa e)) (ha : SF RX Γ C gv K W x fa) : SS RX Γ C gv K W io (.Assign [.Name n py] x pos) fun e => (fa e).bind fun d e => match d with
    | .lst ds => .ok .nx (e.set i (some (Sl.own ds)))
    | _ => .no := by
  obtain ⟨t, p, q⟩ := ha
  refine ⟨tAsg t (gName i), fun X ok hK => (p X ok.toOk hK).2 i n py pos (by rw [ok.hN]; exact hi) (ok.toOk.st hst) ?_, fun B e σ H D rs h => q B e σ H _ rs (PostS.bindF h (hl e) fun ds e1 p us H1 hp rs1 st1 hp1 rl h1 => ?_)⟩
  · cases z : isComp x with
    | false => exact .inr (swaps_no z)
    | true =>
      rw [z] at hsw
      rw [Bool.not_true, Bool.false_or, Bool.or_eq_true] at hsw
      rcases hsw with hsw | hsw
      · exact .inl (swl_ok ok.hsc ok.kd hsw)
      · exact .inr (sw_cell ok.hsc hsw)
  · have nb : ¬ B p := fun z => by
      obtain ⟨ws, w⟩ := rs.bnd p z
      rw [hp] at w; cases w
    obtain ⟨r1, r2⟩ := rs1.adopt nb (i := i) hp1 rl
    refine h1 (σ.set i (some (V.ref p))) H1 r1 ⟨st1.fr, st1.al, fun a z => ?_⟩ (set_pin hio)
    rcases r2 a z with w | w
    · exact st1.sub a w
    · exact .inr (by rw [w]; exact hp)
theorem ss_setF {i : Nat} {n : Str} {py : Pos} (hi : Γ.N[i]? = some n) (hst : stB Γ n = true) (hsw : (!isComp x || swB Γ n py x) = true) (hio : (!(io && i == 0)) = true) (hl : ∀ e, isLstR (fa e)) (ha : SF RX Γ C gv K W x fa) : SS RX Γ C gv K W io (.Assign [.Name n py] x pos) fun e => (fa e).bind fun d e => match bindT (.nm i) d e with
    | some e => .ok .nx e
    | none => .no := by
  obtain ⟨t, p, q⟩ := ha
  refine ⟨tAsg t (gName i), fun X ok hK => (p X ok.toOk hK).2 i n py pos (by rw [ok.hN]; exact hi) (ok.toOk.st hst) ?_, fun B e σ H D rs h => q B e σ H _ rs (Post.fresh rs (hl e) (PostS.bindE h fun d e1 v H1 _ rs1 st1 rl h1 => ?_))⟩
  · cases z : isComp x with
    | false => exact .inr (swaps_no z)
    | true =>
      rw [z] at hsw
      exact .inl (swl_ok ok.hsc ok.kd hsw)
  · obtain ⟨r1, r2⟩ := rs1.put (i := i) rl
    exact h1 (σ.set i (some v)) H1 r1 r2 (set_pin hio)
end
end Ev
set_option Elab.async false
set_option linter.all false
set_option maxRecDepth 100000
set_option maxHeartbeats 4000000
set_option autoImplicit false
/-! Ev11b: new lists that a name owns; rows of values and new lists. -/
namespace Ev
open PySem PySem.Spec PyProof.Rows L2
def asLF (f : Env → R D) : Env → R D := fun e => asL (f e)
theorem asL_lst {r : R D} : isLstR (asL r) := fun d e q => by
  cases r with
  | ok x e1 =>
    cases x with
    | lst ds => cases q; exact ⟨ds, rfl⟩
    | _ => cases q
  | ex _ _ => cases q
  | no => cases q
theorem asL_id {r : R D} (h : isLstR r) : asL r = r := by
  cases r with
  | ok x e1 =>
    obtain ⟨ds, rfl⟩ := h x e1 rfl
    rfl
  | ex _ _ => rfl
  | no => rfl
theorem asLF_id {f : Env → R D} (h : ∀ e, isLstR (f e)) : asLF f = f := funext fun e => asL_id (h e)
section
variable {RX : RXT} {Γ : Gam} {C : Ctx} {gv : Nat → V} {K : PySem.W.Frag} {W : WX} {io : Bool} {pos : Pos} {x y z : PySem.Expr} {fa fb fc : Env → R D} {f g : Env → R Fl} {st : PySem.Stmt} {sts sts2 : List PySem.Stmt}
theorem FPost.new {B : Addr → Prop} {e : Env} {σ : L2.St} {H : Hp} {ds : List D} {us : List V} {Q : VK} (rs : RSt K B H e σ) (h : FPost RX K W B e σ H (.ok (.lst ds) e) Q) (rl : Rps K (Of B e σ) H ds us) {p : Addr} (hp : H p = none) : Q (.ref p) (upd H p (.lst us)) := by
  refine h p us _ hp (rs.with_ hp) (rs.laid hp).2 upd_same ?_
  refine Rps.mono (Fr.fresh hp) (fun _ z => z.elim) (fun b q => ?_) rl
  rcases q with (q | q) | q
  · exact .inl (.inl q)
  · exact .inr (by rw [q]; exact hp)
  · exact .inl (.inr q)
theorem FPost.bindA {a b : Type} {Rel : (Addr → Prop) → Hp → a → b → Prop} {B : Addr → Prop} {e : Env} {σ : L2.St} {H : Hp} {r : R a} {f : a → Env → R D} {Q2 : VK} {Q : b → Hp → Prop} (h : FPost RX K W B e σ H (asL (r.bind f)) Q2)
    (k : ∀ x e1 y H1, r = .ok x e1 → RSt K B H1 e1 σ → Stp H e σ H1 e1 σ → Rel (Of B e1 σ) H1 x y → FPost RX K W B e1 σ H1 (asL (f x e1)) Q2 → Q y H1) : Post RX K W B e σ H Rel r Q := by
  cases r with
  | ok x e1 => exact fun y H1 rs st rl => k x e1 y H1 rfl rs st rl (FPost.shift st h)
  | ex x e1 => exact h
  | no => exact h
theorem sf_cat (ha : SE RX Γ C gv K W x fa) (hb : SE RX Γ C gv K W y fb) : SF RX Γ C gv K W (.BinOp x .Add y pos) (asLF fun e => (fa e).bind fun a e => (fb e).bind fun b e => R.of (binop .add a b) e) := by
  obtain ⟨ta, pa, qa⟩ := ha
  obtain ⟨tb, pb, qb⟩ := hb
  refine ⟨tOp rCat ta tb, fun X ok hK => ⟨pe_op op_cat (pa X ok hK) (pb X ok hK), fun i y py spos hy hl hsw => ps_set (by rw [ok.hN]; exact ok.nd) hy hl.1 (pe_op op_cat (pa X ok hK) (pb X ok hK)) rfl hl.2⟩, fun B e σ H Q rs h => ?_⟩
  refine qa B e σ H _ rs (FPost.bindA h fun d1 e1 v1 H1 _ rs1 _ r1 h1 => ?_)
  refine qb B e1 σ H1 _ rs1 (FPost.bindA h1 fun d2 e2 v2 H2 _ rs2 st2 r2 h2 => ?_)
  cases d1 with
  | lst as =>
    cases d2 with
    | lst bs =>
      by_cases hl : as.length + bs.length ≤ lim
      · have e0 : binop .add (.lst as) (.lst bs) = some (.lst (as ++ bs)) := by simp only [binop]; rw [if_pos hl]
        rw [e0] at h2
        have k1 := rs1.keep st2 r1
        obtain ⟨a, vs, e, _, s1, r⟩ := k1.unlst
        obtain ⟨b, us, e', _, s2, r'⟩ := r2.unlst
        refine ⟨a, b, vs, us, e, e', s1, s2, ?_, fun p hp => FPost.new rs2 h2 (r.app r') hp⟩
        rw [← r.len, ← r'.len]
        exact Nat.le_trans hl lim_line
      · have e0 : binop .add (.lst as) (.lst bs) = none := by simp only [binop]; rw [if_neg hl]
        rw [e0] at h2
        exact h2.elim
    | _ => exact h2.elim
  | tup as =>
    cases d2 with
    | tup bs =>
      exfalso
      simp only [binop] at h2
      split at h2 <;> exact h2.elim
    | _ => exact h2.elim
  | _ => cases d2 <;> exact h2.elim
theorem sf_rep (ha : SE RX Γ C gv K W x fa) (hb : SE RX Γ C gv K W y fb) : SF RX Γ C gv K W (.BinOp x .Mult y pos) (asLF fun e => (fa e).bind fun a e => (fb e).bind fun b e => R.of (binop .mul a b) e) := by
  obtain ⟨ta, pa, qa⟩ := ha
  obtain ⟨tb, pb, qb⟩ := hb
  refine ⟨tOp rRep ta tb, fun X ok hK => ⟨pe_op op_rep (pa X ok hK) (pb X ok hK), fun i y py spos hy hl hsw => ps_set (by rw [ok.hN]; exact ok.nd) hy hl.1 (pe_op op_rep (pa X ok hK) (pb X ok hK)) rfl hl.2⟩, fun B e σ H Q rs h => ?_⟩
  refine qa B e σ H _ rs (FPost.bindA h fun d1 e1 v1 H1 _ rs1 _ r1 h1 => ?_)
  refine qb B e1 σ H1 _ rs1 (FPost.bindA h1 fun d2 e2 v2 H2 _ rs2 st2 r2 h2 => ?_)
  cases d1 with
  | lst as =>
    cases d2 with
    | int k =>
      by_cases hl : as.length * k.toNat ≤ lim ∧ -(2 ^ 63) ≤ k ∧ k < 2 ^ 63
      · have e0 : binop .mul (.lst as) (.int k) = some (.lst (List.replicate k.toNat as).flatten) := by simp only [binop]; rw [if_pos hl]
        rw [e0] at h2
        have k1 := rs1.keep st2 r1
        obtain ⟨a, vs, e, _, s1, r⟩ := k1.unlst
        refine ⟨a, k, vs, e, r2.unint, s1, hl.2.1, hl.2.2, ?_, fun p hp => FPost.new rs2 h2 (Rps.rep r _) hp⟩
        rw [← r.len]
        exact Nat.le_trans hl.1 lim_line
      · have e0 : binop .mul (.lst as) (.int k) = none := by simp only [binop]; rw [if_neg hl]
        rw [e0] at h2
        exact h2.elim
    | _ => exact h2.elim
  | int i =>
    cases d2 with
    | int j =>
      exfalso
      simp only [binop] at h2
      split at h2 <;> exact h2.elim
    | _ => exact h2.elim
  | _ => cases d2 <;> exact h2.elim
theorem sf_rev {k : Nat} {p1 p2 p3 : Pos} (ha : SE RX Γ C gv K W x fa) : SF RX Γ C gv K W (.Subscript x (.Slice none none (some (.UnaryOp .USub (.Constant (.int 1) k p1) p2)) p3) pos) (asLF fun e => (fa e).bind fun a e => R.of (revop a) e) := by
  obtain ⟨ta, pa, qa⟩ := ha
  refine ⟨tRev K ta, fun X ok hK => by subst hK; exact ⟨pe_rev (pa X ok rfl), fun i y py spos hy hl hsw => ps_set (by rw [ok.hN]; exact ok.nd) hy hl.1 (pe_rev (pa X ok rfl)) rfl hl.2⟩, fun B e σ H Q rs h => ?_⟩
  refine qa B e σ H _ rs (FPost.bindA h fun d1 e1 v1 H1 _ rs1 _ r1 h1 => ?_)
  cases d1 with
  | lst ds =>
    obtain ⟨a, vs, e, _, s1, r⟩ := r1.unlst
    exact ⟨a, vs, e, .inl ⟨.inl (.inl s1), fun p hp => FPost.new rs1 h1 r.rev hp⟩⟩
  | _ => exact h1.elim
theorem sf_sl {lo hi : Option PySem.Expr} {p2 : Pos} {fl fh : Env → R (Option Int)} (ha : SE RX Γ C gv K W x fa) (hl : SP1 RX Γ C gv K W lo fl) (hh : SP1 RX Γ C gv K W hi fh) : SF RX Γ C gv K W (.Subscript x (.Slice lo hi none p2) pos) (asLF fun e => (fa e).bind fun x e => (fl e).bind fun l e => (fh e).bind fun h e => R.of (slop x l h) e) := by
  obtain ⟨ta, pa, qa⟩ := ha
  obtain ⟨tl, pl, ql⟩ := hl
  obtain ⟨th, ph, qh⟩ := hh
  refine ⟨tSl (rSlL K) ta tl th, fun X ok hK => by subst hK; exact ⟨pe_slice sl_list (pa X ok rfl) (pl X ok rfl) (ph X ok rfl), fun i y py spos hy hl hsw => ps_set (by rw [ok.hN]; exact ok.nd) hy hl.1 (pe_slice sl_list (pa X ok rfl) (pl X ok rfl) (ph X ok rfl)) rfl hl.2⟩, fun B e σ H Q rs h => ?_⟩
  refine qa B e σ H _ rs (FPost.bindA h fun d1 e1 v1 H1 _ rs1 _ r1 h1 => ?_)
  refine ql B e1 σ H1 _ rs1 (FPost.bindA h1 fun d2 e2 o2 H2 _ rs2 st2 r2 h2 => ?_)
  refine qh B e2 σ H2 _ rs2 (FPost.bindA h2 fun d3 e3 o3 H3 _ rs3 st3 r3 h3 => ?_)
  subst r2 r3
  have k1 := rs2.keep st3 (rs1.keep st2 r1)
  cases d1 with
  | lst ds =>
    obtain ⟨a, vs, e, _, s1, r⟩ := k1.unlst
    exact ⟨a, vs, e, .inl (.inl s1), fun p hp => FPost.new rs3 h3 (cut_rps r _ _) hp⟩
  | tup ds => exact h3.elim
  | _ => exact h3.elim
theorem ss_ownN {i : Nat} {n : Str} {py : Pos} (hi : Γ.N[i]? = some n) (hst : stB Γ n = true) (hsw : (!isComp x || (swB Γ n py x || !decide (Γ.sc.names.lookup n = some .local))) = true) (hio : (!(io && i == 0)) = true) (ha : SF RX Γ C gv K W x (asLF fa)) : SS RX Γ C gv K W io (.Assign [.Name n py] x pos) fun e => (fa e).bind fun d e => match d with
    | .lst ds => .ok .nx (e.set i (some (Sl.own ds)))
    | _ => .no := by
  have q := ss_own (io := io) (pos := pos) hi hst hsw hio (fun e => asL_lst) ha
  have e0 : (fun e => (asLF fa e).bind fun d e => match d with
    | .lst ds => R.ok Fl.nx (e.set i (some (Sl.own ds)))
    | _ => R.no) = fun e => (fa e).bind fun d e => match d with
    | .lst ds => R.ok Fl.nx (e.set i (some (Sl.own ds)))
    | _ => R.no := by
    funext e
    unfold asLF asL
    cases fa e with
    | ok d e1 => cases d <;> rfl
    | ex _ _ => rfl
    | no => rfl
  exact e0 ▸ q
/-! ### rows of values and of new lists -/
theorem RSt.weak {B B' : Addr → Prop} {e : Env} {σ : L2.St} {H : Hp} (rs : RSt K B' H e σ) (h : ∀ a, B a → B' a) : RSt K B H e σ := by
  have of : ∀ a, Of B e σ a → Of B' e σ a := fun a q => q.elim (fun z => .inl (h a z)) .inr
  refine ⟨rs.len, fun i d q => ?_, fun i ds q => ?_, rs.inj, fun a q => rs.bnd a (h a q)⟩
  · obtain ⟨v, w1, w2⟩ := rs.val i d q
    exact ⟨v, w1, Rp.mono (S := fun _ => False) ⟨fun _ _ q _ => q, fun _ z => z.elim⟩ (fun _ z => z.elim) (fun b q => .inl (of b q)) w2⟩
  · obtain ⟨a, us, w1, w2, w3, w4⟩ := rs.own i ds q
    exact ⟨a, us, w1, fun z => w2 (h a z), w3, Rps.mono (S := fun _ => False) ⟨fun _ _ q _ => q, fun _ z => z.elim⟩ (fun _ z => z.elim) (fun b q => .inl (of b q)) w4⟩
/-- what a row has given so far: values, and new lists that stand among ps -/
def Holds (K : PySem.W.Frag) (O : Addr → Prop) (H : Hp) : List Addr → List Bool → List D → List V → Prop
  | ps, [], ds, vs => ps = [] ∧ ds = [] ∧ vs = []
  | ps, false :: os, ds, vs => ∃ d v ds' vs', ds = d :: ds' ∧ vs = v :: vs' ∧ Rp K O H d v ∧ Holds K O H ps os ds' vs'
  | ps, true :: os, ds, vs => ∃ l p us ps' ds' vs', ps = p :: ps' ∧ ds = .lst l :: ds' ∧ vs = .ref p :: vs' ∧ H p = some (.lst us) ∧ Rps K O H l us ∧ Holds K O H ps' os ds' vs'
theorem Holds.mono {S O O' : Addr → Prop} {H H' : Hp} (f : Fr S H H') (hS : ∀ a, S a → O a) (hO : ∀ a, O' a → O a ∨ H a = none) : ∀ {os : List Bool} {ps : List Addr} {ds : List D} {vs : List V}, (∀ p ∈ ps, ¬ S p) → Holds K O H ps os ds vs → Holds K O' H' ps os ds vs
  | [], ps, ds, vs, _, h => h
  | false :: os, ps, ds, vs, n, h => by
    obtain ⟨d, v, ds', vs', e1, e2, r, h'⟩ := h
    exact ⟨d, v, ds', vs', e1, e2, Rp.mono f hS hO r, Holds.mono f hS hO n h'⟩
  | true :: os, ps, ds, vs, n, h => by
    obtain ⟨l, p, us, ps', ds', vs', e0, e1, e2, hp, r, h'⟩ := h
    subst e0
    exact ⟨l, p, us, ps', ds', vs', rfl, e1, e2, f.fr _ _ hp (n p List.mem_cons_self), Rps.mono f hS hO r, Holds.mono f hS hO (fun q hq => n q (List.mem_cons_of_mem _ hq)) h'⟩
theorem Holds.len {O : Addr → Prop} {H : Hp} : ∀ {os : List Bool} {ps : List Addr} {ds : List D} {vs : List V}, Holds K O H ps os ds vs → vs.length = os.length
  | [], ps, ds, vs, h => by rw [h.2.2]; rfl
  | false :: os, ps, ds, vs, h => by
    obtain ⟨d, v, ds', vs', e1, e2, r, h'⟩ := h
    rw [e2, List.length_cons, List.length_cons, h'.len]
  | true :: os, ps, ds, vs, h => by
    obtain ⟨l, p, us, ps', ds', vs', e0, e1, e2, hp, r, h'⟩ := h
    rw [e2, List.length_cons, List.length_cons, h'.len]
def putV : List Nat → List V → L2.St → L2.St
  | i :: is, v :: vs, σ => putV is vs (σ.set i (some v))
  | _, _, σ => σ
/-- the parts of a row are put into their slots -/
theorem settle {B : Addr → Prop} : ∀ {os : List Bool} {is : List Nat} {B1 : Addr → Prop} {ps : List Addr} {ds : List D} {vs : List V} {e : Env} {σ : L2.St} {H : Hp} {ss : List Sl}, is.length = os.length → RSt K B1 H e σ → (∀ a, B1 a ↔ B a ∨ a ∈ ps) → (∀ p ∈ ps, ¬ B p) → ps.Nodup → Holds K (Of B1 e σ) H ps os ds vs → slsOf os ds = some ss →
    RSt K B H (putRow is ss e) (putV is vs σ) ∧ ∀ a, OwnAt (putRow is ss e) (putV is vs σ) a → OwnAt e σ a ∨ a ∈ ps := by
  intro os
  induction os with
  | nil =>
    intro is B1 ps ds vs e σ H ss hl rs hB hn hd hh hs
    obtain ⟨rfl, rfl, rfl⟩ := hh
    cases hs
    cases is with
    | nil => exact ⟨rs.weak fun a q => (hB a).mpr (.inl q), fun a q => .inl q⟩
    | cons _ _ => cases hl
  | cons o os ih =>
    intro is B1 ps ds vs e σ H ss hl rs hB hn hd hh hs
    cases is with
    | nil => cases hl
    | cons i is =>
    replace hl : is.length = os.length := Nat.succ.inj hl
    cases o with
    | false =>
      obtain ⟨d, v, ds', vs', rfl, rfl, r, hh⟩ := hh
      have hs : ((some (Sl.val d) : Option Sl).bind fun s => (slsOf os ds').map fun ss => s :: ss) = some ss := hs
      cases z : slsOf os ds' with
      | none => rw [z] at hs; cases hs
      | some ss' =>
        rw [z] at hs
        cases hs
        obtain ⟨r1, s1⟩ := rs.put (i := i) r
        obtain ⟨k1, k2⟩ := ih hl r1 hB hn hd (Holds.mono (S := fun _ => False) ⟨fun _ _ q _ => q, fun _ z => z.elim⟩ (fun _ z => z.elim) (fun a q => s1.of_ a q) (fun _ _ z => z) hh) z
        refine ⟨k1, fun a q => ?_⟩
        rcases k2 a q with w | w
        · rcases s1.sub a w with w' | w'
          · exact .inl w'
          · obtain ⟨us, q'⟩ := r1.ls w
            rw [w'] at q'; cases q'
        · exact .inr w
    | true =>
      obtain ⟨l, p, us, ps', ds', vs', rfl, rfl, rfl, hp, r, hh⟩ := hh
      have hs : ((some (Sl.own l) : Option Sl).bind fun s => (slsOf os ds').map fun ss => s :: ss) = some ss := hs
      cases z : slsOf os ds' with
      | none => rw [z] at hs; cases hs
      | some ss' =>
        rw [z] at hs
        cases hs
        have hBp : B1 p := (hB p).mpr (.inr List.mem_cons_self)
        have eB : B1 = With (fun a => B1 a ∧ a ≠ p) p := by
          funext a
          apply propext
          constructor
          · intro q
            by_cases w : a = p
            · exact .inr w
            · exact .inl ⟨q, w⟩
          · intro q
            rcases q with q | q
            · exact q.1
            · rw [q]; exact hBp
        have rs' : RSt K (With (fun a => B1 a ∧ a ≠ p) p) H e σ := eB ▸ rs
        have r' : Rps K (Of (With (fun a => B1 a ∧ a ≠ p) p) e σ) H l us := eB ▸ r
        obtain ⟨r1, s1⟩ := rs'.adopt (fun w => w.2 rfl) (i := i) hp r'
        have hd' := List.nodup_cons.mp hd
        obtain ⟨k1, k2⟩ := ih (ps := ps') hl r1 (fun a => by
          constructor
          · intro q
            rcases (hB a).mp q.1 with w | w
            · exact .inl w
            · rcases List.mem_cons.mp w with w | w
              · exact absurd w q.2
              · exact .inr w
          · intro q
            rcases q with w | w
            · exact ⟨(hB a).mpr (.inl w), fun e => hn p List.mem_cons_self (by rw [← e]; exact w)⟩
            · exact ⟨(hB a).mpr (.inr (List.mem_cons_of_mem _ w)), fun e => hd'.1 (by rw [← e]; exact w)⟩) (fun q hq => hn q (List.mem_cons_of_mem _ hq)) hd'.2
          (Holds.mono (S := fun _ => False) (O := Of B1 e σ) ⟨fun _ _ q _ => q, fun _ z => z.elim⟩ (fun _ z => z.elim) (fun a q => by
            rcases q with q | q
            · exact .inl (.inl q.1)
            · rcases s1 a q with w | w
              · exact .inl (.inr w)
              · exact .inl (.inl (by rw [w]; exact hBp))) (fun _ _ z => z) hh) z
        refine ⟨k1, fun a q => ?_⟩
        rcases k2 a q with w | w
        · rcases s1 a w with w' | w'
          · exact .inl w'
          · exact .inr (by rw [w']; exact List.mem_cons_self)
        · exact .inr (List.mem_cons_of_mem _ w)
def VPost (RX : RXT) (K : PySem.W.Frag) (W : WX) (B : Addr → Prop) (e : Env) (σ : L2.St) (H : Hp) (os : List Bool) (r : R (List D)) (Q : List V → Hp → Prop) : Prop := match r with
  | .ok ds e1 => ∀ (B' : Addr → Prop) (ps : List Addr) (vs : List V) (H1 : Hp), RSt K B' H1 e1 σ → Stp H e σ H1 e1 σ → (∀ a, B' a ↔ B a ∨ a ∈ ps) → (∀ p ∈ ps, H p = none) → ps.Nodup → Holds K (Of B' e1 σ) H1 ps os ds vs → Q vs H1
  | .ex x e1 => ∀ c dd H', RSt K B H' e1 σ → Stp H e σ H' e1 σ → RX x c dd H' → W c dd σ H'
  | .no => False
theorem VPost.mono {B : Addr → Prop} {e : Env} {σ : L2.St} {H : Hp} {os : List Bool} {r : R (List D)} {Q Q' : List V → Hp → Prop} (h : VPost RX K W B e σ H os r Q) (k : ∀ vs H1, Q vs H1 → Q' vs H1) : VPost RX K W B e σ H os r Q' := by
  cases r with
  | ok ds e1 => exact fun B' ps vs H1 a b c d e f => k _ _ (h B' ps vs H1 a b c d e f)
  | ex x e1 => exact h
  | no => exact h
def SVL (RX : RXT) (Γ : Gam) (C : Ctx) (gv : Nat → V) (K : PySem.W.Frag) (W : WX) (os : List Bool) (es : List PySem.Expr) (f : Env → R (List D)) : Prop := ∃ t, (∀ X, Ok RX Γ C gv X W → X.K = K → PA X es t) ∧ ∀ (B : Addr → Prop) e σ H Q, RSt K B H e σ → VPost RX K W B e σ H os (f e) Q → t σ H Q
theorem svl_nil : SVL RX Γ C gv K W [] [] fun e => .ok [] e := ⟨tNil, fun X ok hK => pa_nil, fun B e σ H Q rs h => h B [] [] H rs .refl (fun a => ⟨.inl, fun q => q.elim id fun z => by cases z⟩) (fun p z => by cases z) List.nodup_nil ⟨rfl, rfl, rfl⟩⟩
theorem none_back {H H1 : Hp} {e e1 : Env} {σ : L2.St} (st : Stp H e σ H1 e1 σ) {p : Addr} (h : H1 p = none) : H p = none := by
  cases z : H p with
  | none => rfl
  | some o => exact absurd h (st.al p (by rw [z]; exact fun w => by cases w))
variable {os : List Bool} {es : List PySem.Expr} {fs : Env → R (List D)}
theorem svl_val (hs : isStar x = false) (ha : SE RX Γ C gv K W x fa) (hr : SVL RX Γ C gv K W os es fs) : SVL RX Γ C gv K W (false :: os) (x :: es) fun e => (fa e).bind fun x e => (fs e).bind fun xs e => .ok (x :: xs) e := by
  obtain ⟨ta, pa, qa⟩ := ha
  obtain ⟨tr, pr, qr⟩ := hr
  refine ⟨tCons ta tr, fun X ok hK => pa_cons (pa X ok hK) (pr X ok hK) (star_cons hs), fun B e σ H Q rs h => qa B e σ H _ rs ?_⟩
  replace h : VPost RX K W B e σ H (false :: os) ((fa e).bind fun x e => (fs e).bind fun xs e => .ok (x :: xs) e) Q := h
  cases hfa : fa e with
  | no => rw [hfa] at h; exact h.elim
  | ex ev e1 => rw [hfa] at h; exact h
  | ok d e1 =>
    rw [hfa] at h
    intro v H1 rs1 st1 r1
    refine qr B e1 σ H1 _ rs1 ?_
    replace h : VPost RX K W B e σ H (false :: os) ((fs e1).bind fun xs e => .ok (d :: xs) e) Q := h
    cases hfs : fs e1 with
    | no => rw [hfs] at h; exact h.elim
    | ex ev e2 => rw [hfs] at h; exact fun c dd H' rs' st' rx => h c dd H' rs' (st1.trans st') rx
    | ok ds e2 =>
      rw [hfs] at h
      intro B' ps vs H2 rs2 st2 hB hn hnd hh
      refine h B' ps (v :: vs) H2 rs2 (st1.trans st2) hB (fun p hp => none_back st1 (hn p hp)) hnd ⟨d, v, ds, vs, rfl, rfl, Rp.mono (rs1.frame st2) (fun a q => .inr q) (fun a q => ?_) r1, hh⟩
      rcases q with q | q
      · rcases (hB a).mp q with w | w
        · exact .inl (.inl w)
        · exact .inr (hn a w)
      · exact (st2.sub a q).imp .inr id
theorem svl_new (hs : isStar x = false) (ha : SF RX Γ C gv K W x (asLF fa)) (hr : SVL RX Γ C gv K W os es fs) : SVL RX Γ C gv K W (true :: os) (x :: es) fun e => (asL (fa e)).bind fun x e => (fs e).bind fun xs e => .ok (x :: xs) e := by
  obtain ⟨ta, pa, qa⟩ := ha
  obtain ⟨tr, pr, qr⟩ := hr
  refine ⟨tCons ta tr, fun X ok hK => pa_cons (pa X ok hK).1 (pr X ok hK) (star_cons hs), fun B e σ H Q rs h => qa B e σ H _ rs ?_⟩
  replace h : VPost RX K W B e σ H (true :: os) ((asL (fa e)).bind fun x e => (fs e).bind fun xs e => .ok (x :: xs) e) Q := h
  cases hfa : asLF fa e with
  | no => rw [show asL (fa e) = R.no from hfa] at h; exact h.elim
  | ex ev e1 => rw [show asL (fa e) = R.ex ev e1 from hfa] at h; exact h
  | ok d e1 =>
    obtain ⟨l, rfl⟩ := asL_lst d e1 hfa
    rw [show asL (fa e) = R.ok (.lst l) e1 from hfa] at h
    intro p us H1 hp rs1 st1 hp1 rl
    refine qr (With B p) e1 σ H1 _ rs1 ?_
    replace h : VPost RX K W B e σ H (true :: os) ((fs e1).bind fun xs e => .ok (.lst l :: xs) e) Q := h
    cases hfs : fs e1 with
    | no => rw [hfs] at h; exact h.elim
    | ex ev e2 => rw [hfs] at h; exact fun c dd H' rs' st' rx => h c dd H' (rs'.weak fun a q => .inl q) (st1.trans st') rx
    | ok ds e2 =>
      rw [hfs] at h
      intro B' ps vs H2 rs2 st2 hB hn hnd hh
      refine h B' (p :: ps) (.ref p :: vs) H2 rs2 (st1.trans st2) (fun a => ?_) (fun q hq => ?_) (List.nodup_cons.mpr ⟨fun w => ?_, hnd⟩) ⟨l, p, us, ps, ds, vs, rfl, rfl, rfl, st2.fr p _ hp1 (rs1.notOwn (.inr rfl)), Rps.mono (rs1.frame st2) (fun a q => .inr q) (fun a q => ?_) rl, hh⟩
      · rw [hB a]
        constructor
        · intro q
          rcases q with (q | q) | q
          · exact .inl q
          · exact .inr (by rw [q]; exact List.mem_cons_self)
          · exact .inr (List.mem_cons_of_mem _ q)
        · intro q
          rcases q with q | q
          · exact .inl (.inl q)
          · rcases List.mem_cons.mp q with q | q
            · exact .inl (.inr q)
            · exact .inr q
      · rcases List.mem_cons.mp hq with rfl | hq
        · exact hp
        · exact none_back st1 (hn q hq)
      · have := hn p w
        rw [hp1] at this
        cases this
      · rcases q with q | q
        · rcases (hB a).mp q with w | w
          · exact .inl (.inl w)
          · exact .inr (hn a w)
        · exact (st2.sub a q).imp .inr id
/-- behind a row: its parts are put into their slots -/
theorem row_end {B : Addr → Prop} {e : Env} {σ : L2.St} {H : Hp} {is : List Nat} {D : Ends} {r : R (List Ev.D)} (rs : RSt K B H e σ) (hl : is.length = os.length) (hio : ∀ σ vs, io = true → (putV is vs σ)[0]? = σ[0]?) (h : PostS RX K W io B e σ H (r.bind fun ds e => match slsOf os ds with
    | some ss => .ok .nx (putRow is ss e)
    | none => .no) D) : VPost RX K W B e σ H os r fun vs H1 => vs.length = os.length ∧ D.nx (putV is vs σ) H1 := by
  cases r with
  | no => exact h
  | ex x e1 => exact fun c dd H' rs' st rx => h σ c dd H' rs' st rx
  | ok ds e1 =>
    intro B' ps vs H1 rs1 st1 hB hn hnd hh
    replace h : PostS RX K W io B e σ H (match slsOf os ds with
      | some ss => .ok .nx (putRow is ss e1)
      | none => .no) D := h
    cases z : slsOf os ds with
    | none => rw [z] at h; exact h.elim
    | some ss =>
      rw [z] at h
      obtain ⟨k1, k2⟩ := settle hl rs1 hB (fun p hp w => by
        obtain ⟨us, q⟩ := rs.bnd p w
        rw [hn p hp] at q; cases q) hnd hh z
      refine ⟨hh.len, h _ H1 k1 ⟨st1.fr, st1.al, fun a q => ?_⟩ (hio σ vs)⟩
      rcases k2 a q with w | w
      · exact st1.sub a w
      · exact .inr (hn a w)
end
end Ev
set_option Elab.async false
set_option linter.all false
set_option maxRecDepth 100000
set_option maxHeartbeats 4000000
set_option autoImplicit false
/-! Ev12: the rest of the statements; every statement. -/
namespace Ev
open PySem PySem.Spec PyProof.Rows L2
section
variable {RX : RXT} {Γ : Gam} {C : Ctx} {gv : Nat → V} {K : PySem.W.Frag} {W : WX} {io : Bool} {pos : Pos} {x y z : PySem.Expr} {fa fb fc : Env → R D} {f g : Env → R Fl} {st : PySem.Stmt} {sts sts2 : List PySem.Stmt}
/-! ### a, b = x, y -/
def locB (Γ : Gam) (n : Str) : Bool := decide (Γ.sc.names.lookup n = some .local)
def okI (io : Bool) (i : Nat) : Bool := !(io && i == 0)
theorem getE_inj {l : List Str} (h : l.Nodup) {i j : Nat} {a b : Str} (hi : l[i]? = some a) (hj : l[j]? = some b) (hne : i ≠ j) : a ≠ b := fun e => by
  subst e
  exact hne (nodup_ix h hi hj)
theorem sole_no {tg x : PySem.Expr} {l : Nat} {env : PySem.Env} (h : isComp x = false) : swapsWithSole [tg] x l env = pure false := by
  show swapsWith x (some tg) l env = pure false
  exact swaps_no h
/-- an item of a list read, any sign -/
theorem get_list {X : Cx} : PGet X (rIxL X.K) := by
  intro pins s σ H x y v u Q I rx ry h
  obtain ⟨p, xs, i, z, rfl, rfl, hq, he, q⟩ := h
  cases rx
  obtain ⟨t, rfl⟩ := ry
  obtain ⟨its, r, pl, hz⟩ := I.list hq
  obtain ⟨j, h1, h2, h3, h4, h5⟩ := atI_get he
  obtain ⟨w, ew, rw'⟩ := r.get h2
  have hl := r.length
  have hn := line63
  have fin : EP X pins σ Q w s := ⟨z, H, I, rw', q⟩
  by_cases h0 : 0 ≤ i
  · have hj : i.toNat = j := by
      rw [seqIndex_of h0 h5] at h1
      exact Option.some.inj h1
    exact wpAny_getItem_list pl.isList h0 (by omega) (by rw [hj]; simpa using ew) fin
  · have hj : (i + (its.toArray.size : Int)).toNat = j := by
      rw [seqIndex_neg (by omega) h4] at h1
      rw [List.size_toArray, ← hl]
      exact Option.some.inj h1
    exact wpAny_getItem_list_neg pl.isList (by omega) (by rw [List.size_toArray] <;> omega) (by omega) (by rw [hj]; simpa using ew) fin
theorem ss_par2 {i j : Nat} {n m : Str} {px py pt pt2 : Pos} {kt k2 : Nat} (hi : Γ.N[i]? = some n) (hj : Γ.N[j]? = some m) (hij : i ≠ j) (hn : locB Γ n = true) (hm : locB Γ m = true) (i0 : okI io i = true) (j0 : okI io j = true)
    (hw : sw2B px py [x, y] = true) (ha : SE RX Γ C gv K W x fa) (hb : SE RX Γ C gv K W y fb) :
    SS RX Γ C gv K W io (.Assign [.Tuple [.Name n px, .Name m py] kt pt] (.Tuple [x, y] k2 pt2) pos) fun e => (fa e).bind fun a e => (fb e).bind fun b e => .ok .nx ((e.set i (some (.val a))).set j (some (.val b))) := by
  obtain ⟨t, p, q⟩ := ha
  obtain ⟨u, p2, q2⟩ := hb
  have hst : noStar [x, y] = true := by
    unfold sw2B at hw
    exact (and2 (and2 (and2 hw).2).2).2
  obtain ⟨s1, s2⟩ := noStar_cons hst
  obtain ⟨s2, s3⟩ := noStar_cons s2
  refine ⟨tPar i j (tCons t (tCons u tNil)), fun X ok hK => ?_, fun B e σ H D rs h => ?_⟩
  · have hx : X.env.scope.names.lookup n = some .local := by rw [ok.hsc]; exact of_decide_eq_true hn
    have hy : X.env.scope.names.lookup m = some .local := by rw [ok.hsc]; exact of_decide_eq_true hm
    exact ps_par ok.calm (by rw [ok.hN]; exact ok.nd) (by rw [ok.hN]; exact hi) (by rw [ok.hN]; exact hj) hij hx hy (pa_cons (p X ok.toOk hK) (pa_cons (p2 X ok.toOk hK) pa_nil (star_cons s2)) (star_cons s1))
      (sw2_ok (by rw [ok.hsc]; exact ok.kd) hx hy (getE_inj ok.nd hi hj hij) hw) rfl
  · refine q B e σ H _ rs (PostS.bindE h fun a e1 v1 H1 _ rs1 _ r1 h1 => ?_)
    refine q2 B e1 σ H1 _ rs1 (PostS.bindE h1 fun b e2 v2 H2 _ rs2 st2 r2 h2 => ?_)
    refine ⟨v1, v2, rfl, ?_⟩
    obtain ⟨rs3, st3⟩ := rs2.put (i := i) (rs1.keep st2 r1)
    obtain ⟨rs4, st4⟩ := rs3.put (i := j) (rs2.keep st3 r2)
    exact h2 _ H2 rs4 (st3.trans st4) fun z => by rw [set_pin j0 z, set_pin i0 z]
theorem putV_pin {io : Bool} : ∀ {is : List Nat} {vs : List V} {σ : L2.St}, (is.all fun i => okI io i) = true → io = true → (putV is vs σ)[0]? = σ[0]?
  | [], vs, σ, _, _ => by cases vs <;> rfl
  | i :: is, [], σ, _, _ => rfl
  | i :: is, v :: vs, σ, h, k => by
    rw [List.all_cons] at h
    obtain ⟨h1, h2⟩ := and2 h
    show (putV is vs (σ.set i (some v)))[0]? = σ[0]?
    rw [putV_pin h2 k, set_pin h1 k]
theorem len2 {a : Type} {l : List a} (h : l.length = 2) : ∃ x y, l = [x, y] := by
  match l, h with
  | [x, y], _ => exact ⟨x, y, rfl⟩
theorem len3 {a : Type} {l : List a} (h : l.length = 3) : ∃ x y z, l = [x, y, z] := by
  match l, h with
  | [x, y, z], _ => exact ⟨x, y, z, rfl⟩
theorem ss_parN2 {i j : Nat} {os : List Bool} {n m : Str} {px py pt pt2 : Pos} {kt k2 : Nat} {fr : Env → R (List D)} (hi : Γ.N[i]? = some n) (hj : Γ.N[j]? = some m) (hij : i ≠ j) (hn : locB Γ n = true) (hm : locB Γ m = true) (hio : ([i, j].all fun i => okI io i) = true)
    (hw : sw2B px py [x, y] = true) (hos : os.length = 2) (ha : SVL RX Γ C gv K W os [x, y] fr) :
    SS RX Γ C gv K W io (.Assign [.Tuple [.Name n px, .Name m py] kt pt] (.Tuple [x, y] k2 pt2) pos) fun e => (fr e).bind fun ds e => match slsOf os ds with
      | some ss => .ok .nx (putRow [i, j] ss e)
      | none => .no := by
  obtain ⟨t, p, q⟩ := ha
  refine ⟨tPar i j t, fun X ok hK => ?_, fun B e σ H D rs h => ?_⟩
  · have hx : X.env.scope.names.lookup n = some .local := by rw [ok.hsc]; exact of_decide_eq_true hn
    have hy : X.env.scope.names.lookup m = some .local := by rw [ok.hsc]; exact of_decide_eq_true hm
    exact ps_par ok.calm (by rw [ok.hN]; exact ok.nd) (by rw [ok.hN]; exact hi) (by rw [ok.hN]; exact hj) hij hx hy (p X ok.toOk hK)
      (sw2_ok (by rw [ok.hsc]; exact ok.kd) hx hy (getE_inj ok.nd hi hj hij) hw) rfl
  · have k := row_end (is := [i, j]) (io := io) rs (by rw [hos]; rfl) (fun σ vs => putV_pin hio) h
    refine q B e σ H _ rs (VPost.mono k fun vs H1 z => ?_)
    obtain ⟨v, w, rfl⟩ := len2 (z.1.trans hos)
    exact ⟨v, w, rfl, z.2⟩
theorem ss_parN3 {i j l : Nat} {os : List Bool} {n m o : Str} {px py pz pt pt2 : Pos} {kt k2 : Nat} {fr : Env → R (List D)} (hi : Γ.N[i]? = some n) (hj : Γ.N[j]? = some m) (hl : Γ.N[l]? = some o) (hij : i ≠ j) (hil : i ≠ l) (hjl : j ≠ l) (hn : locB Γ n = true) (hm : locB Γ m = true) (ho : locB Γ o = true) (hio : ([i, j, l].all fun i => okI io i) = true)
    (hw : sw2B px py [x, y, z] = true) (hp : (pz.line == px.line) = true) (hos : os.length = 3) (ha : SVL RX Γ C gv K W os [x, y, z] fr) :
    SS RX Γ C gv K W io (.Assign [.Tuple [.Name n px, .Name m py, .Name o pz] kt pt] (.Tuple [x, y, z] k2 pt2) pos) fun e => (fr e).bind fun ds e => match slsOf os ds with
      | some ss => .ok .nx (putRow [i, j, l] ss e)
      | none => .no := by
  obtain ⟨t, p, q⟩ := ha
  refine ⟨tPar3 i j l t, fun X ok hK => ?_, fun B e σ H D rs h => ?_⟩
  · have hx : X.env.scope.names.lookup n = some .local := by rw [ok.hsc]; exact of_decide_eq_true hn
    have hy : X.env.scope.names.lookup m = some .local := by rw [ok.hsc]; exact of_decide_eq_true hm
    have hz : X.env.scope.names.lookup o = some .local := by rw [ok.hsc]; exact of_decide_eq_true ho
    exact ps_par3 ok.calm (by rw [ok.hN]; exact ok.nd) (by rw [ok.hN]; exact hi) (by rw [ok.hN]; exact hj) (by rw [ok.hN]; exact hl) hij hil hjl hx hy hz (p X ok.toOk hK)
      (sw3_ok (by rw [ok.hsc]; exact ok.kd) hx hy hz (getE_inj ok.nd hi hj hij) (getE_inj ok.nd hi hl hil) (getE_inj ok.nd hj hl hjl) hw hp) rfl
  · have k := row_end (is := [i, j, l]) (io := io) rs (by rw [hos]; rfl) (fun σ vs => putV_pin hio) h
    refine q B e σ H _ rs (VPost.mono k fun vs H1 z => ?_)
    obtain ⟨v, w, u, rfl⟩ := len3 (z.1.trans hos)
    exact ⟨v, w, u, rfl, z.2⟩
/-! ### a row kept as a tuple and taken apart: names that inner blocks read, or more than three -/
def noSwB (Γ : Gam) (ts es : List PySem.Expr) : Bool := !(ts.length == 2 || ts.length == 3) || (es.all (foldedForSure 8) || ts.any fun t => match t with
  | .Name n _ => !decide (Γ.sc.names.lookup n = some .local)
  | _ => true)
theorem fm_less {a b : Type} {f : a → Option b} : ∀ {l : List a}, (l.any fun x => (f x).isNone) = true → (l.filterMap f).length < l.length
  | [], h => by cases h
  | x :: l, h => by
    rw [List.any_cons, Bool.or_eq_true] at h
    rw [List.filterMap_cons]
    have le := List.length_filterMap_le f l
    rcases h with h | h
    · cases z : f x with
      | none => simp only [List.length_cons]; omega
      | some y => rw [z] at h; cases h
    · have := fm_less h
      cases z : f x with
      | none => simp only [List.length_cons]; omega
      | some y => simp only [List.length_cons]; omega
theorem swapped_none {Γ : Gam} {env : PySem.Env} {ts es : List PySem.Expr} {kt k2 : Nat} {pt pt2 : Pos} (hsc : env.scope = Γ.sc) (h : noSwB Γ ts es = true) : swappedStores [.Tuple ts kt pt] (.Tuple es k2 pt2) env = pure none := by
  unfold noSwB at h
  rw [Bool.or_eq_true, Bool.or_eq_true] at h
  unfold swappedStores
  show (if (!(ts.length == 2 || ts.length == 3) || es.length != ts.length || env.blockKind != .function) = true then _ else _) = _
  by_cases c1 : (!(ts.length == 2 || ts.length == 3) || es.length != ts.length || env.blockKind != .function) = true
  · rw [if_pos c1]
  rw [if_neg c1]
  split
  · rfl
  · rcases h with h | h | h
    · rw [h] at c1
      exact absurd rfl c1
    · simp only [h, if_true]
      split <;> rfl
    · have lt : ∀ l : Nat, (ts.filterMap fun x => match x with
          | .Name id pos => if (env.kindOf id == some .local && pos.line == l) = true then some id else none
          | _ => none).length < ts.length := fun l => by
        refine fm_less ?_
        rw [List.any_eq_true] at h ⊢
        obtain ⟨t, h1, h2⟩ := h
        refine ⟨t, h1, ?_⟩
        cases t with
        | Name n p =>
          have h2 : Γ.sc.names.lookup n ≠ some .local := by simpa using h2
          have : (env.kindOf n == some NameKind.local) = false := by
            show (env.scope.names.lookup n == _) = false
            rw [hsc]
            exact beq_eq_false_iff_ne.mpr h2
          simp [this]
        | _ => rfl
      rw [if_pos]
      rw [Bool.or_eq_true]
      refine .inl ?_
      rw [bne_iff_ne]
      exact Nat.ne_of_lt (lt _)
def gNames : List Nat → TGs
  | [] => gNil
  | i :: is => gCons (gName i) (gNames is)
theorem gNames_i : ∀ {is : List Nat} {vs : List V} {σ : L2.St} {H : Hp} {Q : L2.St → Hp → Prop}, vs.length = is.length → Q (putV is vs σ) H → gNames is vs σ H Q
  | [], vs, σ, H, Q, h, q => by
    cases vs with
    | nil => exact ⟨rfl, q⟩
    | cons _ _ => cases h
  | i :: is, vs, σ, H, Q, h, q => by
    cases vs with
    | nil => cases h
    | cons v vs => exact ⟨v, vs, rfl, gNames_i (Nat.succ.inj h) q⟩
def rowC (Γ : Gam) (io : Bool) : List Nat → List PySem.Expr → Bool
  | i :: is, t :: ts => (asName t fun n => decide (Γ.N[i]? = some n) && (stB Γ n && okI io i)) && rowC Γ io is ts
  | [], [] => true
  | _, _ => false
theorem rowC_pg {X : Cx} (ok : Ok RX Γ C gv X W) : ∀ {is : List Nat} {ts : List PySem.Expr}, rowC Γ io is ts = true → PGs X ts (gNames is) ∧ noStar ts = true ∧ ts.length = is.length ∧ (is.all fun i => okI io i) = true
  | [], [], _ => ⟨pgs_nil, rfl, rfl, rfl⟩
  | [], _ :: _, h => by cases h
  | _ :: _, [], h => by cases h
  | i :: is, t :: ts, h => by
    obtain ⟨h1, h2⟩ := and2 h
    obtain ⟨n, p, rfl, h1⟩ := asName_i h1
    obtain ⟨h3, h4⟩ := and2 h1
    obtain ⟨h5, h6⟩ := and2 h4
    obtain ⟨k1, k2, k3, k4⟩ := rowC_pg ok h2
    obtain ⟨s1, s2⟩ := ok.st h5
    refine ⟨pgs_cons (pg_name (by rw [ok.hN]; exact ok.nd) (by rw [ok.hN]; exact of_decide_eq_true h3) s1 s2) k1, ?_, ?_, ?_⟩
    · unfold noStar at k2 ⊢
      rw [List.all_cons, k2]
      rfl
    · rw [List.length_cons, List.length_cons, k3]
    · rw [List.all_cons, h6, k4]
      rfl
theorem rowC_s {is : List Nat} {ts : List PySem.Expr} (h : rowC Γ io is ts = true) : noStar ts = true ∧ ts.length = is.length ∧ (is.all fun i => okI io i) = true := by
  induction is generalizing ts with
  | nil => cases ts with
    | nil => exact ⟨rfl, rfl, rfl⟩
    | cons _ _ => cases h
  | cons i is ih => cases ts with
    | nil => cases h
    | cons t ts =>
      obtain ⟨h1, h2⟩ := and2 h
      obtain ⟨n, p, rfl, h1⟩ := asName_i h1
      obtain ⟨h3, h4⟩ := and2 h1
      obtain ⟨h5, h6⟩ := and2 h4
      obtain ⟨k2, k3, k4⟩ := ih h2
      refine ⟨?_, ?_, ?_⟩
      · unfold noStar at k2 ⊢
        rw [List.all_cons, k2]
        rfl
      · rw [List.length_cons, List.length_cons, k3]
      · rw [List.all_cons, h6, k4]
        rfl
theorem row_endT {os : List Bool} {B : Addr → Prop} {e : Env} {σ : L2.St} {H : Hp} {is : List Nat} {D : Ends} {r : R (List Ev.D)} (rs : RSt K B H e σ) (hl : is.length = os.length) (hio : ∀ σ vs, io = true → (putV is vs σ)[0]? = σ[0]?) (h : PostS RX K W io B e σ H (r.bind fun ds e => match slsOf os ds with
    | some ss => .ok .nx (putRow is ss e)
    | none => .no) D) : VPost RX K W B e σ H os r fun vs H1 => vs.length = os.length ∧ ∀ p, H1 p = none → D.nx (putV is vs σ) (upd H1 p (.tup vs)) := by
  cases r with
  | no => exact h
  | ex x e1 => exact fun c dd H' rs' st rx => h σ c dd H' rs' st rx
  | ok ds e1 =>
    intro B' ps vs H1 rs1 st1 hB hn hnd hh
    replace h : PostS RX K W io B e σ H (match slsOf os ds with
      | some ss => .ok .nx (putRow is ss e1)
      | none => .no) D := h
    cases z : slsOf os ds with
    | none => rw [z] at h; exact h.elim
    | some ss =>
      rw [z] at h
      refine ⟨hh.len, fun p hp => ?_⟩
      obtain ⟨rs2, st2⟩ := rs1.laid (o := .tup vs) hp
      obtain ⟨k1, k2⟩ := settle hl rs2 hB (fun p hp w => by
        obtain ⟨us, q⟩ := rs.bnd p w
        rw [hn p hp] at q; cases q) hnd (Holds.mono (Fr.fresh hp) (fun _ z => z.elim) (fun b q => .inl q) (fun _ _ z => z) hh) z
      have st3 := st1.trans st2
      refine h _ _ k1 ⟨st3.fr, st3.al, fun a q => ?_⟩ (hio σ vs)
      rcases k2 a q with w | w
      · exact st3.sub a w
      · exact .inr (hn a w)
theorem ss_parT {is : List Nat} {os : List Bool} {ts es : List PySem.Expr} {kt k2 : Nat} {pt pt2 : Pos} {fr : Env → R (List D)} (ht : rowC Γ io is ts = true) (hw : noSwB Γ ts es = true) (hlim : is.length ≤ 60) (hes : os.length = is.length) (ha : SVL RX Γ C gv K W os es fr) :
    SS RX Γ C gv K W io (.Assign [.Tuple ts kt pt] (.Tuple es k2 pt2) pos) fun e => (fr e).bind fun ds e => match slsOf os ds with
      | some ss => .ok .nx (putRow is ss e)
      | none => .no := by
  obtain ⟨t, p, q⟩ := ha
  obtain ⟨q1, q2, q3⟩ := rowC_s ht
  refine ⟨tAsg (tTup t) (gTup K ts.length (gNames is)), fun X ok hK => ?_, fun B e σ H D rs h => ?_⟩
  · subst hK
    exact ps_asg (pe_tup (p X ok.toOk rfl)) (pg_tup ok.calm (rowC_pg ok.toOk ht).1 each_len (each_none q1)) rfl (swapped_none ok.hsc hw) rfl
  · have k := row_endT (is := is) (io := io) rs hes.symm (fun σ vs => putV_pin q3) h
    refine q B e σ H _ rs (VPost.mono k fun vs H1 z => ?_)
    obtain ⟨z1, z2⟩ := z
    have hvl : vs.length = is.length := z1.trans hes
    refine ⟨?_, fun p hp => ⟨p, vs, rfl, .inl (.inl upd_same), by rw [hvl, q2], gNames_i hvl (z2 p hp)⟩⟩
    have : lim ≤ sizeLine := lim_line
    have : (60 : Nat) ≤ lim := by decide
    omega
theorem ss_par3 {i j l : Nat} {n m o : Str} {px py pz pt pt2 : Pos} {kt k2 : Nat} (hi : Γ.N[i]? = some n) (hj : Γ.N[j]? = some m) (hl : Γ.N[l]? = some o) (hij : i ≠ j) (hil : i ≠ l) (hjl : j ≠ l) (hn : locB Γ n = true) (hm : locB Γ m = true) (ho : locB Γ o = true)
    (i0 : okI io i = true) (j0 : okI io j = true) (l0 : okI io l = true) (hw : sw2B px py [x, y, z] = true) (hp : (pz.line == px.line) = true) (ha : SE RX Γ C gv K W x fa) (hb : SE RX Γ C gv K W y fb) (hc : SE RX Γ C gv K W z fc) :
    SS RX Γ C gv K W io (.Assign [.Tuple [.Name n px, .Name m py, .Name o pz] kt pt] (.Tuple [x, y, z] k2 pt2) pos) fun e => (fa e).bind fun a e => (fb e).bind fun b e => (fc e).bind fun c e => .ok .nx (((e.set i (some (.val a))).set j (some (.val b))).set l (some (.val c))) := by
  obtain ⟨t, p, q⟩ := ha
  obtain ⟨u, p2, q2⟩ := hb
  obtain ⟨w, p3, q3⟩ := hc
  have hst : noStar [x, y, z] = true := by
    unfold sw2B at hw
    exact (and2 (and2 (and2 hw).2).2).2
  obtain ⟨s1, s2⟩ := noStar_cons hst
  obtain ⟨s2, s3⟩ := noStar_cons s2
  obtain ⟨s3, s4⟩ := noStar_cons s3
  refine ⟨tPar3 i j l (tCons t (tCons u (tCons w tNil))), fun X ok hK => ?_, fun B e σ H D rs h => ?_⟩
  · have hx : X.env.scope.names.lookup n = some .local := by rw [ok.hsc]; exact of_decide_eq_true hn
    have hy : X.env.scope.names.lookup m = some .local := by rw [ok.hsc]; exact of_decide_eq_true hm
    have hz : X.env.scope.names.lookup o = some .local := by rw [ok.hsc]; exact of_decide_eq_true ho
    exact ps_par3 ok.calm (by rw [ok.hN]; exact ok.nd) (by rw [ok.hN]; exact hi) (by rw [ok.hN]; exact hj) (by rw [ok.hN]; exact hl) hij hil hjl hx hy hz
      (pa_cons (p X ok.toOk hK) (pa_cons (p2 X ok.toOk hK) (pa_cons (p3 X ok.toOk hK) pa_nil (star_cons s3)) (star_cons s2)) (star_cons s1))
      (sw3_ok (by rw [ok.hsc]; exact ok.kd) hx hy hz (getE_inj ok.nd hi hj hij) (getE_inj ok.nd hi hl hil) (getE_inj ok.nd hj hl hjl) hw hp) rfl
  · refine q B e σ H _ rs (PostS.bindE h fun a e1 v1 H1 _ rs1 _ r1 h1 => ?_)
    refine q2 B e1 σ H1 _ rs1 (PostS.bindE h1 fun b e2 v2 H2 _ rs2 st2 r2 h2 => ?_)
    refine q3 B e2 σ H2 _ rs2 (PostS.bindE h2 fun c e3 v3 H3 _ rs3 st3 r3 h3 => ?_)
    refine ⟨v1, v2, v3, rfl, ?_⟩
    obtain ⟨rs4, st4⟩ := rs3.put (i := i) (rs2.keep st3 (rs1.keep st2 r1))
    obtain ⟨rs5, st5⟩ := rs4.put (i := j) (rs3.keep st4 (rs2.keep st3 r2))
    obtain ⟨rs6, st6⟩ := rs5.put (i := l) (rs4.keep st5 (rs3.keep st4 r3))
    exact h3 _ H3 rs6 ((st4.trans st5).trans st6) fun z => by rw [set_pin l0 z, set_pin j0 z, set_pin i0 z]
/-! ### own lists written -/
theorem ss_setix {i : Nat} {n : Str} {px ps : Pos} (hi : Γ.N[i]? = some n) (hv : visB Γ n = true) (hc : isComp x = false) (hs : isSl y = false) (ha : SE RX Γ C gv K W x fa) (hb : SE RX Γ C gv K W y fb) :
    SS RX Γ C gv K W io (.Assign [.Subscript (.Name n px) y ps] x pos) fun e => (fa e).bind fun d e => match ioOk (some i) e with
    | true => (fb e).bind fun k e => match (getO e i).bind fun ds => setAt ds k d with
      | some ds => .ok .nx (e.set i (some (Sl.own ds)))
      | none => .no
    | false => .no := by
  obtain ⟨t, p, q⟩ := ha
  obtain ⟨u, p2, q2⟩ := hb
  refine ⟨tAsg t (gSub (tVar i) u rSetL), fun X ok hK => ps_asg (p X ok.toOk hK) (pg_sub (pe_slot ok.toOk hi hv) (p2 X ok.toOk hK) set_list (fun v => by cases y <;> first | rfl | cases hs)) (sole_no hc) rfl rfl, fun B e σ H D rs h => ?_⟩
  refine q B e σ H _ rs (PostS.bindE h fun d e1 v1 H1 _ rs1 _ r1 h1 => ?_)
  cases z : ioOk (some i) e1 with
  | false => simp only [z] at h1; exact h1.elim
  | true =>
    simp only [z] at h1
    have z : (getO e1 i).isSome = true := z
    cases k0 : getO e1 i with
    | none => rw [k0] at z; cases z
    | some ds0 =>
      obtain ⟨a, vs0, w0, _⟩ := rs1.own i ds0 (getO_own k0)
      refine ⟨.ref a, w0, ?_⟩
      refine q2 B e1 σ H1 _ rs1 (PostS.bindE h1 fun k e2 v2 H2 _ rs2 st2 r2 h2 => ?_)
      cases k1 : getO e2 i with
      | none => rw [k1] at h2; exact h2.elim
      | some ds =>
        rw [k1] at h2
        replace h2 : PostS RX K W io B e2 σ H2 (match setAt ds k d with
          | some ds => .ok .nx (e2.set i (some (Sl.own ds)))
          | none => .no) D := h2
        obtain ⟨a', vs, w1, w2, w3, w4⟩ := rs2.own i ds (getO_own k1)
        rw [w0] at w1
        cases w1
        cases k with
        | int ki =>
          cases hpl : place ds.length ki with
          | none => simp only [setAt, hpl] at h2; exact h2.elim
          | some j =>
            simp only [setAt, hpl, Option.map_some] at h2
            obtain ⟨rs3, st3⟩ := rs2.write (getO_own k1) w0 (Rps.set (rs1.keep st2 r1) j w4)
            rw [place_ix, w4.len] at hpl
            exact ⟨a, vs, ki, j, rfl, r2.unint, w3, hpl, h2 σ _ rs3 st3 fun _ => rfl⟩
        | _ => exact h2.elim
theorem ss_app {i : Nat} {n : Str} {px : Pos} {ap cp : Pos} (hi : Γ.N[i]? = some n) (hv : visB Γ n = true) (hs : isStar x = false) (hl : (ap.endLine == cp.line) = true) (ha : SE RX Γ C gv K W x fa) :
    SS RX Γ C gv K W io (.Expr (.Call (.Attribute (.Name n px) "append" ap) [x] [] cp) pos) fun e => match ioOk (some i) e with
    | false => .no
    | true => (fa e).bind fun d e => match getO e i with
      | some ds => if ds.length < lim then .ok .nx (e.set i (some (Sl.own (ds ++ [d])))) else .no
      | none => .no := by
  obtain ⟨t, p, q⟩ := ha
  refine ⟨tDrop (tBM K "list" rAppend (tVar i) (tCons t tNil)), fun X ok hK => ?_, fun B e σ H D rs h => ?_⟩
  · subst hK
    refine ps_expr (pe_bm PySem.F.plainAttrs_list PySem.F.slot_list_append PySem.F.type_list_append mt_append (pe_slot ok.toOk hi hv) (pa_one (p X ok.toOk rfl) hs) rfl ?_ hl (star_cons hs) rfl) rfl
    rw [star_cons hs]
    rfl
  · cases z : ioOk (some i) e with
    | false => simp only [z] at h; exact h.elim
    | true =>
      simp only [z] at h
      have z : (getO e i).isSome = true := z
      cases k0 : getO e i with
      | none => rw [k0] at z; cases z
      | some ds0 =>
        obtain ⟨a, vs0, w0, _, w00, _⟩ := rs.own i ds0 (getO_own k0)
        refine ⟨.ref a, w0, .inl ⟨rfl, vs0, .inl (.inl w00)⟩, ?_⟩
        refine q B e σ H _ rs (PostS.bindE h fun d e1 v1 H1 _ rs1 _ r1 h1 => ?_)
        cases k1 : getO e1 i with
        | none => rw [k1] at h1; exact h1.elim
        | some ds =>
          rw [k1] at h1
          replace h1 : PostS RX K W io B e1 σ H1 (if ds.length < lim then .ok .nx (e1.set i (some (Sl.own (ds ++ [d])))) else .no) D := h1
          obtain ⟨a', vs, w1, w2, w3, w4⟩ := rs1.own i ds (getO_own k1)
          rw [w0] at w1
          cases w1
          split at h1
          · rename_i hlt
            obtain ⟨rs3, st3⟩ := rs1.write (getO_own k1) w0 (w4.app (.cons r1 .nil))
            refine ⟨a, vs, v1, rfl, rfl, w3, ?_, h1 σ _ rs3 st3 fun _ => rfl⟩
            rw [← w4.len]
            exact Nat.lt_of_lt_of_le hlt lim_line
          · exact h1.elim
/-! ### op= -/
def augB : Bop → Bool
  | .add => true
  | .sub => true
  | _ => false
def rAug : Bop → TIp
  | .sub => ipI fun i j => i - j
  | _ => ipI fun i j => i + j
theorem aug_ok {X : Cx} {o : Bop} (h : augB o = true) : PIp X (opOf o) (rAug o) := by
  cases o <;> first | exact ip_add | exact ip_sub | cases h
theorem aug_val {O : Addr → Prop} {H : Hp} {o : Bop} {d1 d2 d : D} {v1 v2 : V} {Q : VK} (h1 : Rp K O H d1 v1) (h2 : Rp K O H d2 v2) (h : augop o d1 d2 = some d) (k : ∀ v, Rp K O H d v → Q v H) : rAug o v1 v2 H Q := by
  unfold augop at h
  split at h
  · cases h
    exact ⟨_, _, h1.unint, h2.unint, k _ (by unfold Rp; rfl)⟩
  · cases h
    exact ⟨_, _, h1.unint, h2.unint, k _ (by unfold Rp; rfl)⟩
  · cases h
theorem ss_aug {i : Nat} {n : Str} {px : Pos} {o : Bop} (hi : Γ.N[i]? = some n) (hst : stB Γ n = true) (i0 : okI io i = true) (ho : augB o = true) (ha : SE RX Γ C gv K W x fa) :
    SS RX Γ C gv K W io (.AugAssign (.Name n px) (opOf o) x pos) fun e => match e[i]? with
    | some (some (.val x)) => (fa e).bind fun y e => match augop o x y with
      | some z => .ok .nx (e.set i (some (.val z)))
      | none => .no
    | _ => .no := by
  obtain ⟨t, p, q⟩ := ha
  refine ⟨tAug i t (rAug o), fun X ok hK => ?_, fun B e σ H D rs h => ?_⟩
  · obtain ⟨s1, s2⟩ := ok.toOk.st hst
    exact ps_aug (by rw [ok.hN]; exact ok.nd) (by rw [ok.hN]; exact hi) s1 (p X ok.toOk hK) (aug_ok ho) s2
  · cases k : e[i]? with
    | none => simp only [k] at h; exact h.elim
    | some sl =>
      cases sl with
      | none => simp only [k] at h; exact h.elim
      | some sv =>
        cases sv with
        | own ds => simp only [k] at h; exact h.elim
        | val d0 =>
          simp only [k] at h
          obtain ⟨v0, w1, w2⟩ := rs.val i d0 k
          refine ⟨v0, w1, q B e σ H _ rs (PostS.bindE h fun d e1 v1 H1 _ rs1 st1 r1 h1 => ?_)⟩
          cases hz : augop o d0 d with
          | none => rw [hz] at h1; exact h1.elim
          | some dz =>
            rw [hz] at h1
            refine aug_val (rs.keep st1 w2) r1 hz fun v rv => ?_
            obtain ⟨rs3, st3⟩ := rs1.put (i := i) rv
            exact h1 _ H1 rs3 st3 (set_pin i0)
theorem ss_augix {i : Nat} {n : Str} {px ps : Pos} {o : Bop} (hi : Γ.N[i]? = some n) (hv : visB Γ n = true) (hs : isSl y = false) (ho : augB o = true) (hb : SE RX Γ C gv K W y fb) (ha : SE RX Γ C gv K W x fa) :
    SS RX Γ C gv K W io (.AugAssign (.Subscript (.Name n px) y ps) (opOf o) x pos) fun e => match ioOk (some i) e with
    | true => (fb e).bind fun y e => match (getO e i).bind fun ds => ixop (.lst ds) y with
      | some x => (fa e).bind fun w e => match (augop o x w).bind fun z => (getO e i).bind fun ds => setAt ds y z with
        | some ds => .ok .nx (e.set i (some (Sl.own ds)))
        | none => .no
      | none => .no
    | false => .no := by
  obtain ⟨t, p, q⟩ := ha
  obtain ⟨u, p2, q2⟩ := hb
  refine ⟨tAugS (tVar i) u t (rIxL K) (rAug o) rSetL, fun X ok hK => ?_, fun B e σ H D rs h => ?_⟩
  · subst hK
    exact ps_augS (pe_slot ok.toOk hi hv) (p2 X ok.toOk rfl) get_list (p X ok.toOk rfl) (aug_ok ho) set_list (fun ov iv new => by cases y <;> first | rfl | cases hs)
  · cases z : ioOk (some i) e with
    | false => simp only [z] at h; exact h.elim
    | true =>
      simp only [z] at h
      have z : (getO e i).isSome = true := z
      cases k0 : getO e i with
      | none => rw [k0] at z; cases z
      | some ds0 =>
        obtain ⟨a, vs0, w0, _⟩ := rs.own i ds0 (getO_own k0)
        refine ⟨.ref a, w0, ?_⟩
        refine q2 B e σ H _ rs (PostS.bindE h fun k e2 v2 H2 _ rs2 st2 r2 h2 => ?_)
        cases k1 : getO e2 i with
        | none => rw [k1] at h2; exact h2.elim
        | some ds =>
          rw [k1] at h2
          replace h2 : PostS RX K W io B e2 σ H2 (match ixop (.lst ds) k with
            | some x => (fa e2).bind fun w e => match (augop o x w).bind fun z => (getO e i).bind fun ds => setAt ds k z with
              | some ds => .ok .nx (e.set i (some (Sl.own ds)))
              | none => .no
            | none => .no) D := h2
          obtain ⟨a', vs, w1, w2, w3, w4⟩ := rs2.own i ds (getO_own k1)
          rw [w0] at w1
          cases w1
          cases k with
          | int ki =>
            cases hx : ixop (.lst ds) (.int ki) with
            | none => rw [hx] at h2; exact h2.elim
            | some d0 =>
              rw [hx] at h2
              replace h2 : PostS RX K W io B e2 σ H2 ((fa e2).bind fun w e => match (augop o d0 w).bind fun z => (getO e i).bind fun ds => setAt ds (.int ki) z with
                | some ds => .ok .nx (e.set i (some (Sl.own ds)))
                | none => .no) D := h2
              obtain ⟨v0, hv0, rv0⟩ := at_get w4 (show at_ ds ki = some d0 from hx)
              refine ⟨a, vs, ki, v0, rfl, r2.unint, .inl (.inl w3), hv0, ?_⟩
              refine q B e2 σ H2 _ rs2 (PostS.bindE h2 fun d e3 v3 H3 _ rs3 st3 r3 h3 => ?_)
              cases hz : augop o d0 d with
              | none => rw [hz] at h3; exact h3.elim
              | some dz =>
                rw [hz] at h3
                replace h3 : PostS RX K W io B e3 σ H3 (match (getO e3 i).bind fun ds => setAt ds (.int ki) dz with
                  | some ds => .ok .nx (e3.set i (some (Sl.own ds)))
                  | none => .no) D := h3
                refine aug_val (rs2.keep st3 rv0) r3 hz fun v rv => ?_
                cases k2 : getO e3 i with
                | none => rw [k2] at h3; exact h3.elim
                | some ds2 =>
                  rw [k2] at h3
                  replace h3 : PostS RX K W io B e3 σ H3 (match setAt ds2 (.int ki) dz with
                    | some ds => .ok .nx (e3.set i (some (Sl.own ds)))
                    | none => .no) D := h3
                  obtain ⟨a', vs2, x1, x2, x3, x4⟩ := rs3.own i ds2 (getO_own k2)
                  rw [w0] at x1
                  cases x1
                  cases hpl : place ds2.length ki with
                  | none => simp only [setAt, hpl] at h3; exact h3.elim
                  | some j =>
                    simp only [setAt, hpl, Option.map_some] at h3
                    obtain ⟨rs4, st4⟩ := rs3.write (getO_own k2) w0 (Rps.set rv j x4)
                    rw [place_ix, x4.len] at hpl
                    exact ⟨a, vs2, ki, j, rfl, r2.unint, x3, hpl, h3 σ _ rs4 st4 fun _ => rfl⟩
          | _ => exact h2.elim
/-! ### loops -/
theorem PostS.turn {B : Addr → Prop} {e : Env} {σ : L2.St} {H : Hp} {r : R Fl} {nxt : Env → R Fl} {D : Ends} {N : L2.St → Hp → Prop} (h : PostS RX K W io B e σ H (r.bind fun f e => match f with
      | .nx => nxt e
      | .ct => nxt e
      | .bk => .ok .nx e
      | .rt d => .ok (.rt d) e) D) (hN : ∀ e' σ' H', RSt K B H' e' σ' → Stp H e σ H' e' σ' → PostS RX K W io B e' σ' H' (nxt e') D → N σ' H') : PostS RX K W io B e σ H r { D with nx := N, ct := N, bk := D.nx } := by
  cases r with
  | ok fl e1 =>
    intro σ' H' rs st p
    cases fl with
    | nx => exact hN e1 σ' H' rs st (PostS.shift (r := nxt e1) st p h)
    | ct => exact hN e1 σ' H' rs st (PostS.shift (r := nxt e1) st p h)
    | bk => exact h σ' H' rs st p
    | rt d => exact fun v rv => h σ' H' rs st p v rv
  | ex x e1 => exact h
  | no => exact h
theorem ss_while (hc : ST RX Γ C gv K W x fc) (hb : SSs RX Γ C gv K W io sts f) : SS RX Γ C gv K W io (.While x sts [] pos) fun e => loopW fc f C.fuel e := by
  obtain ⟨t, p, q⟩ := hc
  obtain ⟨u, p2, q2⟩ := hb
  refine ⟨tWhile t u, fun X ok hK => ps_while ok.own (p X ok.toOk hK) (p2 X ok hK), fun B e σ H D rs h => ?_⟩
  refine ⟨fun m σ H => ∃ e, RSt K B H e σ ∧ PostS RX K W io B e σ H (loopW fc f m e) D, ⟨C.fuel, e, rs, h⟩, ?_⟩
  rintro m σ1 H1 ⟨e1, rs1, h1⟩
  cases m with
  | zero => exact h1.elim
  | succ m =>
    unfold loopW at h1
    refine q B e1 σ1 H1 _ rs1 (PostS.way h1 fun b e2 H2 rs2 h2 => ?_)
    cases b with
    | false =>
      rw [if_neg Bool.false_ne_true] at h2 ⊢
      exact h2 σ1 H2 rs2 .refl fun _ => rfl
    | true =>
      rw [if_pos rfl] at h2 ⊢
      refine ⟨fun σ' H' => ∃ e, RSt K B H' e σ' ∧ PostS RX K W io B e σ' H' (loopW fc f m e) D, fun σ' H' w => ⟨m, Nat.lt_succ_self m, w⟩, ?_⟩
      exact q2 B e2 σ1 H2 _ rs2 (PostS.turn h2 fun e' σ' H' rs' _ h' => ⟨e', rs', h'⟩)
theorem ss_for {t : Tg} {tg it : PySem.Expr} {fi : Env → R (List D)} (hset : isSet it = false) (hio : (!(io && t.slots.contains 0)) = true) (hi : SI RX Γ C gv K W tg it fi) (hg : SG RX Γ C gv K W t tg) (hb : SSs RX Γ C gv K W io sts f) :
    SS RX Γ C gv K W io (.For tg it sts [] pos) fun e => (fi e).bind fun ds e => loopF t f ds e := by
  obtain ⟨wi, pi, qi⟩ := hi
  obtain ⟨g, pg, qg⟩ := hg
  obtain ⟨u, p2, q2⟩ := hb
  refine ⟨tFor wi g u, fun X ok hK => ps_for ok.own ok.calm (pi X ok.toOk hK) (pg X ok.toOk hK) (p2 X ok hK) (no_fold hset), fun B e σ H D rs h => ?_⟩
  refine qi B e σ H _ rs (PostS.bindE h fun ds e1 J H1 _ rs1 st1 w1 h1 => ?_)
  refine ⟨fun i m σ H => i + m = ds.length ∧ ∃ e, RSt K B H e σ ∧ Wk K (Of B e σ) H ds J ∧ PostS RX K W io B e σ H (loopF t f (ds.drop i) e) D, ⟨ds.length, by omega, e1, rs1, w1, h1⟩, ?_⟩
  rintro i m σ2 H2 ⟨him, e2, rs2, wk, h2⟩
  by_cases hm : i < ds.length
  · have hd : ds[i]? = some ds[i] := List.getElem?_eq_getElem hm
    rw [List.drop_eq_getElem_cons hm] at h2
    unfold loopF at h2
    refine .inr ⟨(wk.go hd).1, fun σ' H' => i + 1 + (m - 1) = ds.length ∧ ∃ e, RSt K B H' e σ' ∧ Wk K (Of B e σ') H' ds J ∧ PostS RX K W io B e σ' H' (loopF t f (ds.drop (i + 1)) e) D, fun σ' H' w => ⟨m - 1, by omega, w⟩, fun xv H' hy => ?_⟩
    obtain ⟨rfl, rx⟩ := (wk.go hd).2 xv H' hy
    refine qg B e2 σ2 H' ds[i] xv _ rs2 rx ?_
    cases hb1 : bindT t ds[i] e2 with
    | none => rw [hb1] at h2; exact h2.elim
    | some e3 =>
      rw [hb1] at h2
      intro σ3 rs3 st3 o3
      have h3 := PostS.shift st3 (tgt_pin hio o3) h2
      have wk3 := wk.keep rs2 st3
      refine q2 B e3 σ3 H' _ rs3 (PostS.turn h3 fun e' σ' H'' rs' st' h' => ⟨by omega, e', rs', wk3.keep rs3 st', h'⟩)
  · refine .inl ⟨wk.stop (by omega), ?_⟩
    rw [List.drop_eq_nil_of_le (by omega)] at h2
    exact h2 σ2 H2 rs2 .refl fun _ => rfl
end
end Ev
set_option Elab.async false
set_option linter.all false
set_option maxRecDepth 100000
set_option maxHeartbeats 4000000
set_option autoImplicit false
/-! Ev13: every statement. -/
namespace Ev
open PySem PySem.Spec PyProof.Rows L2
def nmB : Tg → Bool
  | .nm _ => true
  | _ => false
def okT (io : Bool) (t : Tg) : Bool := !(io && t.slots.contains 0)
/-- what may make a new list -/
def newN : Ex → Bool
  | .lst _ => true
  | .lc _ _ _ _ _ => true
  | .lc2 _ _ _ _ _ _ _ _ _ => true
  | .bin .add _ _ => true
  | .bin .mul _ _ => true
  | .rev _ => true
  | .sl _ _ _ => true
  | _ => false
def rowT (Γ : Gam) (io : Bool) : List Nat → List PySem.Expr → Bool
  | i :: is, t :: ts => (asName t fun n => decide (Γ.N[i]? = some n) && (locB Γ n && okI io i)) && rowT Γ io is ts
  | [], [] => true
  | _, _ => false
def swT (ts es : List PySem.Expr) : Bool := match ts with
  | [.Name _ px, .Name _ py] => sw2B px py es
  | [.Name _ px, .Name _ py, .Name _ pz] => sw2B px py es && pz.line == px.line
  | _ => false
theorem swT_i {ts es : List PySem.Expr} (h : swT ts es = true) : (∃ n px m py, ts = [.Name n px, .Name m py] ∧ sw2B px py es = true) ∨ ∃ n px m py o pz, ts = [.Name n px, .Name m py, .Name o pz] ∧ sw2B px py es = true ∧ (pz.line == px.line) = true := by
  unfold swT at h
  split at h
  · exact .inl ⟨_, _, _, _, rfl, h⟩
  · obtain ⟨h1, h2⟩ := and2 h
    exact .inr ⟨_, _, _, _, _, _, rfl, h1, h2⟩
  · cases h
def mRow (Γ : Gam) : List Bool → Ex → List PySem.Expr → Bool
  | true :: os, .cons a as, es => asC es fun e es => !isStar e && (newN a && (mE Γ a e && mRow Γ os as es))
  | false :: os, .cons a as, es => asC es fun e es => !isStar e && (mE Γ a e && mRow Γ os as es)
  | [], .nil, es => es.isEmpty
  | _, _, _ => false
mutual
def mS (Γ : Gam) (io : Bool) : Sm → PySem.Stmt → Bool
  | .exp a, s => asExp s fun e _ => !isComp e && mE Γ a e
  | .asg t a, s => asAsg s fun tg e _ => mG Γ t tg && (okT io t && (mE Γ a e && ((swF Γ tg e && (!(isTup tg && isTup e) || asTup tg fun ts => asTup e fun es => noSwB Γ ts es)) || (nmB t && (newB a && asNameP tg fun n py => swB Γ n py e)))))
  | .own i a, s => asAsg s fun tg e _ => asNameP tg fun n py => decide (Γ.N[i]? = some n) && (stB Γ n && (okI io i && (newN a && (mE Γ a e && (!isComp e || (swB Γ n py e || !decide (Γ.sc.names.lookup n = some .local)))))))
  | .par2 i j a b, s => asAsg s fun tg e _ => asTup2 tg fun t1 t2 => asNameP t1 fun n px => asNameP t2 fun m py => asTup2 e fun x y => decide (Γ.N[i]? = some n) && (decide (Γ.N[j]? = some m) && (decide (i ≠ j) && (locB Γ n && (locB Γ m &&
      (okI io i && (okI io j && (sw2B px py [x, y] && (mE Γ a x && mE Γ b y))))))))
  | .parN is os a, s => asAsg s fun tg e _ => asTup tg fun ts => asTup e fun es => (rowT Γ io is ts && (decide (is.Nodup) && (swT ts es && (decide (es.length = ts.length) && (decide (os.length = ts.length) && mRow Γ os a es))))) ||
    (rowC Γ io is ts && (noSwB Γ ts es && (decide (is.length ≤ 60) && (decide (os.length = is.length) && mRow Γ os a es))))
  | .par3 i j l a b c, s => asAsg s fun tg e _ => asTup tg fun ts => as3 ts fun t1 t2 t3 => asNameP t1 fun n px => asNameP t2 fun m py => asNameP t3 fun o pz => asTup e fun es => as3 es fun x y z =>
      decide (Γ.N[i]? = some n) && (decide (Γ.N[j]? = some m) && (decide (Γ.N[l]? = some o) && (decide (i ≠ j) && (decide (i ≠ l) && (decide (j ≠ l) && (locB Γ n && (locB Γ m && (locB Γ o &&
      (okI io i && (okI io j && (okI io l && (sw2B px py [x, y, z] && ((pz.line == px.line) && (mE Γ a x && (mE Γ b y && mE Γ c z)))))))))))))))
  | .setix i k a, s => asAsg s fun tg e _ => asSub tg fun o y => asName o fun n => decide (Γ.N[i]? = some n) && (visB Γ n && (!isComp e && (!isSl y && (mE Γ a e && mE Γ k y))))
  | .aug i o a, s => asAug s fun tg op e => decide (op = opOf o) && (augB o && asName tg fun n => decide (Γ.N[i]? = some n) && (stB Γ n && (okI io i && mE Γ a e)))
  | .augix i k o a, s => asAug s fun tg op e => decide (op = opOf o) && (augB o && asSub tg fun ob y => asName ob fun n => decide (Γ.N[i]? = some n) && (visB Γ n && (!isSl y && (mE Γ k y && mE Γ a e))))
  | .app i a, s => asExp s fun e _ => asMeth e fun n m es ln => ln && (decide (m = ("append" : Str)) && as1 es fun y => !isStar y && (mE Γ a y && (decide (Γ.N[i]? = some n) && visB Γ n)))
  | .ret a, s => asRet s fun e => mE Γ a e
  | .retN, s => isRetN s
  | .ite c a b, s => asIfS s fun x p q => tE c && (mE Γ c x && (mSs Γ io a p && mSs Γ io b q))
  | .whl c b, s => asWhl s fun x p => tE c && (mE Γ c x && mSs Γ io b p)
  | .for_ t src b, s => asFor s fun tg it p => !isSet it && (okT io t && (mG Γ t tg && (mI Γ src it && mSs Γ io b p)))
  | .brk, s => isBrk s
  | .cnt, s => isCnt s
  | .pass, s => isPass s
  | .never, _ => true
  | .nil, _ => false
  | .cons _ _, _ => false
def mSs (Γ : Gam) (io : Bool) : Sm → List PySem.Stmt → Bool
  | .nil, ss => ss.isEmpty
  | .cons a b, ss => asC ss fun s r => mS Γ io a s && mSs Γ io b r
  | _, _ => false
end
section
variable {RX : RXT} {Γ : Gam} {C : Ctx} {gv : Nat → V} {K : PySem.W.Frag} {W : WX} {io : Bool}
theorem new_ok (g0 : St0 Γ C gv K) {a : Ex} {ex : PySem.Expr} (hn : newB a = true) (h : mE Γ a ex = true) : SF RX Γ C gv K W ex (den C a) ∧ ∀ e, isLstR (den C a e) := by
  cases a with
  | lst a =>
    obtain ⟨x, p, rfl, h⟩ := asLst_i h
    refine ⟨sf_lst ((main_ok a).2.1 Γ W x g0 h), fun e d e' q => ?_⟩
    replace q : ((denL C a e).bind fun ds e => if ds.length ≤ lim then R.ok (D.lst ds) e else .no) = .ok d e' := q
    cases z1 : denL C a e with
    | ok ds e1 =>
      rw [z1] at q
      replace q : (if ds.length ≤ lim then R.ok (D.lst ds) e1 else .no) = .ok d e' := q
      split at q
      · cases q; exact ⟨_, rfl⟩
      · cases q
    | ex _ _ => rw [z1] at q; cases q
    | no => rw [z1] at q; cases q
  | lc vs t src cond elt =>
    refine ⟨?_, fun e => lcF_lst⟩
    obtain ⟨x, tg, it, ifs, scope, pos, rfl, h⟩ := asComp_i h
    obtain ⟨h0, h⟩ := and2 h
    obtain ⟨h1, h⟩ := and2 h
    obtain ⟨h2, h⟩ := and2 h
    obtain ⟨h3, h⟩ := and2 h
    obtain ⟨h4, h⟩ := and2 h
    obtain ⟨h5, h6⟩ := and2 h
    have hc : SC RX (Γ.blk scope) C gv K W0 ifs (den C cond) := by
      cases ifs with
      | nil =>
        cases yesB_i h6
        exact sc_nil
      | cons c r =>
        obtain ⟨c', e, h6⟩ := as1_i h6
        rw [e]
        obtain ⟨k1, k2⟩ := and2 h6
        exact sc_one (((main_ok cond).1 (Γ.blk scope) W0 c' g0.blk k1).2 k2)
    exact sf_lc h0 (not_t h1) h4 ((main_ok src).2.2 Γ W tg it g0 h2) ((tg_ok t).1 tg h3) hc ((main_ok elt).1 (Γ.blk scope) W0 x g0.blk h5).1
  | lc2 vs t src cond vs1 t1 src1 cond1 elt =>
    refine ⟨?_, fun e => lc2F_lst⟩
    obtain ⟨x, tg, it, ifs, tg1, it1, ifs1, scope, pos, rfl, h⟩ := asComp2_i h
    obtain ⟨h0, h⟩ := and2 h
    obtain ⟨h1, h⟩ := and2 h
    obtain ⟨h1', h⟩ := and2 h
    obtain ⟨h2, h⟩ := and2 h
    obtain ⟨h3, h⟩ := and2 h
    obtain ⟨h4, h⟩ := and2 h
    obtain ⟨k2, h⟩ := and2 h
    obtain ⟨k3, h⟩ := and2 h
    obtain ⟨k4, h⟩ := and2 h
    obtain ⟨k5, h⟩ := and2 h
    obtain ⟨h5, h⟩ := and2 h
    obtain ⟨h6, h7⟩ := and2 h
    have hc : SC RX (Γ.blk scope) C gv K W0 ifs (den C cond) := by
      cases ifs with
      | nil =>
        cases yesB_i h6
        exact sc_nil
      | cons c r =>
        obtain ⟨c', e, h6⟩ := as1_i h6
        rw [e]
        obtain ⟨k1, k2⟩ := and2 h6
        exact sc_one (((main_ok cond).1 (Γ.blk scope) W0 c' g0.blk k1).2 k2)
    have hc1 : SC RX (Γ.blk scope) C gv K W0 ifs1 (den C cond1) := by
      cases ifs1 with
      | nil =>
        cases yesB_i h7
        exact sc_nil
      | cons c r =>
        obtain ⟨c', e, h7⟩ := as1_i h7
        rw [e]
        obtain ⟨k1, k2⟩ := and2 h7
        exact sc_one (((main_ok cond1).1 (Γ.blk scope) W0 c' g0.blk k1).2 k2)
    exact sf_lc2 h0 (not_t h1) (not_t h1') h4 k4 k5 ((main_ok src).2.2 Γ W tg it g0 h2) ((tg_ok t).1 tg h3) hc ((main_ok src1).2.2 (Γ.blk scope) W0 tg1 it1 g0.blk k2) ((tg_ok t1).1 tg1 k3) hc1 ((main_ok elt).1 (Γ.blk scope) W0 x g0.blk h5).1
  | _ => cases hn
theorem newN_ok (g0 : St0 Γ C gv K) {a : Ex} {ex : PySem.Expr} (hn : newN a = true) (h : mE Γ a ex = true) : SF RX Γ C gv K W ex (asLF (den C a)) := by
  have E : ∀ {a : Ex} {x : PySem.Expr}, mE Γ a x = true → SE RX Γ C gv K W x (den C a) := fun {a x} h => ((main_ok a).1 Γ W x g0 h).1
  cases a with
  | lst a =>
    obtain ⟨s1, s2⟩ := new_ok (RX := RX) (W := W) g0 (a := .lst a) rfl h
    rw [asLF_id s2]
    exact s1
  | lc vs t src cond elt =>
    obtain ⟨s1, s2⟩ := new_ok (RX := RX) (W := W) g0 (a := .lc vs t src cond elt) rfl h
    rw [asLF_id s2]
    exact s1
  | lc2 vs t src cond vs1 t1 src1 cond1 elt =>
    obtain ⟨s1, s2⟩ := new_ok (RX := RX) (W := W) g0 (a := .lc2 vs t src cond vs1 t1 src1 cond1 elt) rfl h
    rw [asLF_id s2]
    exact s1
  | bin o a b =>
    obtain ⟨x, p, y, pos, rfl, h⟩ := asBin_i h
    obtain ⟨h0, h⟩ := and2 h
    obtain ⟨h1, h2⟩ := and2 h
    cases of_decide_eq_true h0
    cases o with
    | add => exact sf_cat (E h1) (E h2)
    | mul => exact sf_rep (E h1) (E h2)
    | _ => cases hn
  | rev a =>
    obtain ⟨x, y, pos, rfl, h⟩ := asSub_i h
    obtain ⟨h0, h1⟩ := and2 h
    obtain ⟨k, p1, p2, p3, rfl⟩ := isRevSl_i h0
    exact sf_rev (E h1)
  | sl a lo hi =>
    obtain ⟨x, y, pos, rfl, h⟩ := asSub_i h
    obtain ⟨h1, h⟩ := and2 h
    obtain ⟨l, u, p2, rfl, h⟩ := asSl_i h
    obtain ⟨h2, h3⟩ := and2 h
    exact sf_sl (E h1) (part_ok g0 (main_ok lo) h2) (part_ok g0 (main_ok hi) h3)
  | _ => cases hn
theorem row_ok (g0 : St0 Γ C gv K) : ∀ (os : List Bool) (a : Ex) (es : List PySem.Expr), mRow Γ os a es = true → SVL RX Γ C gv K W os es (denRow C os a)
  | [], a, es, h => by
    cases a with
    | nil => cases es with
      | nil => exact svl_nil
      | cons _ _ => cases h
    | _ => cases h
  | true :: os, a, es, h => by
    cases a with
    | cons a as =>
      obtain ⟨x, r, rfl, h⟩ := asC_i h
      obtain ⟨h1, h⟩ := and2 h
      obtain ⟨h2, h⟩ := and2 h
      obtain ⟨h3, h4⟩ := and2 h
      exact svl_new (not_t h1) (newN_ok g0 h2 h3) (row_ok g0 os as r h4)
    | _ => cases h
  | false :: os, a, es, h => by
    cases a with
    | cons a as =>
      obtain ⟨x, r, rfl, h⟩ := asC_i h
      obtain ⟨h1, h⟩ := and2 h
      obtain ⟨h2, h3⟩ := and2 h
      exact svl_val (not_t h1) ((main_ok a).1 Γ W x g0 h2).1 (row_ok g0 os as r h3)
    | _ => cases h
theorem nmB_i {t : Tg} (h : nmB t = true) : ∃ i, t = .nm i := by
  cases t <;> first | exact ⟨_, rfl⟩ | cases h
theorem stores_no {t : Tg} {tg x : PySem.Expr} (hg : mG Γ t tg = true) (h : (!(isTup tg && isTup x) || asTup tg fun ts => asTup x fun es => noSwB Γ ts es) = true) (env : PySem.Env) (hsc : env.scope = Γ.sc) : swappedStores [tg] x env = pure none := by
  cases t with
  | nm i => obtain ⟨n, p, rfl, _⟩ := asName_i hg; rfl
  | tp t =>
    obtain ⟨es, n, p, rfl, _⟩ := asTup_i hg
    cases x with
    | Tuple vs k2 pt2 =>
      have h : noSwB Γ es vs = true := by simpa [isTup, asTup] using h
      exact swapped_none hsc h
    | _ => rfl
  | nil => cases hg
  | cons _ _ => cases hg
theorem main_s (g0 : St0 Γ C gv K) (s : Sm) : (∀ st, mS Γ io s st = true → SS RX Γ C gv K W io st (denS C s)) ∧ ∀ sts, mSs Γ io s sts = true → SSs RX Γ C gv K W io sts (denS C s) := by
  have E : ∀ {a : Ex} {x : PySem.Expr}, mE Γ a x = true → SE RX Γ C gv K W x (den C a) := fun {a x} h => ((main_ok a).1 Γ W x g0 h).1
  have T : ∀ {a : Ex} {x : PySem.Expr}, mE Γ a x = true → tE a = true → ST RX Γ C gv K W x (den C a) := fun {a x} h k => ((main_ok a).1 Γ W x g0 h).2 k
  induction s with
  | nil =>
    refine ⟨fun st h => (by cases h), fun sts h => ?_⟩
    cases sts with
    | nil => exact ss_nil
    | cons _ _ => cases h
  | cons a b iha ihb =>
    refine ⟨fun st h => (by cases h), fun sts h => ?_⟩
    obtain ⟨x, r, rfl, q1⟩ := asC_i h
    obtain ⟨h1, h2⟩ := and2 q1
    exact ss_cons (iha.1 x h1) (ihb.2 r h2)
  | exp a =>
    refine ⟨fun st h => ?_, fun sts h => (by cases h)⟩
    obtain ⟨x, p, rfl, q1⟩ := asExp_i h
    obtain ⟨h1, h2⟩ := and2 q1
    exact ss_exp (not_t h1) (E h2)
  | asg t a =>
    refine ⟨fun st h => ?_, fun sts h => (by cases h)⟩
    obtain ⟨tg, x, p, rfl, q1⟩ := asAsg_i h
    obtain ⟨h1, q2⟩ := and2 q1
    obtain ⟨h2, q3⟩ := and2 q2
    obtain ⟨h3, q4⟩ := and2 q3
    rw [Bool.or_eq_true] at q4
    rcases q4 with k | k
    · obtain ⟨k1, k2⟩ := and2 k
      exact ss_asg (fun env l hsc => swF_no hsc k1) (stores_no h1 k2) h2 (mG_star h1) (E h3) ((tg_ok t).1 tg h1)
    · obtain ⟨k1, k⟩ := and2 k
      obtain ⟨k2, q5⟩ := and2 k
      obtain ⟨n, py, rfl, k3⟩ := asNameP_i q5
      obtain ⟨i, rfl⟩ := nmB_i k1
      have g : (decide (Γ.N[i]? = some n) && stB Γ n) = true := h1
      obtain ⟨g1, g2⟩ := and2 g
      obtain ⟨s1, s2⟩ := new_ok (RX := RX) (W := W) g0 k2 h3
      refine ss_setF (of_decide_eq_true g1) g2 (by rw [k3, Bool.or_true]) ?_ s2 s1
      have h2 : (!(io && ([i] : List Nat).contains 0)) = true := h2
      have e0 : ([i] : List Nat).contains 0 = (i == 0) := by
        cases i with
        | zero => rfl
        | succ n => rfl
      rw [e0] at h2
      exact h2
  | own i a =>
    refine ⟨fun st h => ?_, fun sts h => (by cases h)⟩
    obtain ⟨tg, x, p, rfl, q1⟩ := asAsg_i h
    obtain ⟨n, py, rfl, q2⟩ := asNameP_i q1
    obtain ⟨h1, q3⟩ := and2 q2
    obtain ⟨h2, q4⟩ := and2 q3
    obtain ⟨h3, q5⟩ := and2 q4
    obtain ⟨h4, q6⟩ := and2 q5
    obtain ⟨h5, h6⟩ := and2 q6
    exact ss_ownN (of_decide_eq_true h1) h2 h6 h3 (newN_ok g0 h4 h5)
  | parN is os a =>
    refine ⟨fun st h => ?_, fun sts h => (by cases h)⟩
    obtain ⟨tg, e, p, rfl, q1⟩ := asAsg_i h
    obtain ⟨ts, kt, pt, rfl, q2⟩ := asTup_i q1
    obtain ⟨es, k2, pt2, rfl, q3⟩ := asTup_i q2
    rw [Bool.or_eq_true] at q3
    rcases q3 with q3 | q3
    case inr =>
      obtain ⟨h1, q4⟩ := and2 q3
      obtain ⟨h2, q5⟩ := and2 q4
      obtain ⟨h3, q6⟩ := and2 q5
      obtain ⟨h4, h5⟩ := and2 q6
      exact ss_parT h1 h2 (of_decide_eq_true h3) (of_decide_eq_true h4) (row_ok g0 os a _ h5)
    obtain ⟨h1, q4⟩ := and2 q3
    obtain ⟨h2, q5⟩ := and2 q4
    obtain ⟨h3, q6⟩ := and2 q5
    obtain ⟨h4, q7⟩ := and2 q6
    obtain ⟨h5, h6⟩ := and2 q7
    have h2 := of_decide_eq_true h2
    have h4 := of_decide_eq_true h4
    have h5 := of_decide_eq_true h5
    rcases swT_i h3 with ⟨n, px, m, py, rfl, h3⟩ | ⟨n, px, m, py, o, pz, rfl, h3, h7⟩
    · obtain ⟨x, y, rfl⟩ := len2 (show es.length = 2 from h4)
      match is, h1, h2 with
      | [i, j], h1, h2 =>
        obtain ⟨g1, h1⟩ := and2 h1
        obtain ⟨g2, _⟩ := and2 h1
        obtain ⟨a1, a2⟩ := and2 (show (decide (Γ.N[i]? = some n) && (locB Γ n && okI io i)) = true from g1)
        obtain ⟨a2, a3⟩ := and2 a2
        obtain ⟨b1, b2⟩ := and2 (show (decide (Γ.N[j]? = some m) && (locB Γ m && okI io j)) = true from g2)
        obtain ⟨b2, b3⟩ := and2 b2
        refine ss_parN2 (of_decide_eq_true a1) (of_decide_eq_true b1) (fun z => ?_) a2 b2 ?_ h3 h5 (row_ok g0 os a _ h6)
        · rw [z] at h2; simp at h2
        · simp [a3, b3]
      | [i], h1, _ => exact absurd (and2 h1).2 (by intro z; cases z)
      | i :: j :: k :: r, h1, _ => exact absurd (and2 (and2 h1).2).2 (by intro z; cases z)
    · obtain ⟨x, y, z, rfl⟩ := len3 (show es.length = 3 from h4)
      match is, h1, h2 with
      | [i, j, l], h1, h2 =>
        obtain ⟨g1, h1⟩ := and2 h1
        obtain ⟨g2, h1⟩ := and2 h1
        obtain ⟨g3, _⟩ := and2 h1
        obtain ⟨a1, a2⟩ := and2 (show (decide (Γ.N[i]? = some n) && (locB Γ n && okI io i)) = true from g1)
        obtain ⟨a2, a3⟩ := and2 a2
        obtain ⟨b1, b2⟩ := and2 (show (decide (Γ.N[j]? = some m) && (locB Γ m && okI io j)) = true from g2)
        obtain ⟨b2, b3⟩ := and2 b2
        obtain ⟨c1, c2⟩ := and2 (show (decide (Γ.N[l]? = some o) && (locB Γ o && okI io l)) = true from g3)
        obtain ⟨c2, c3⟩ := and2 c2
        refine ss_parN3 (of_decide_eq_true a1) (of_decide_eq_true b1) (of_decide_eq_true c1) (fun z => ?_) (fun z => ?_) (fun z => ?_) a2 b2 c2 ?_ h3 h7 h5 (row_ok g0 os a _ h6)
        · rw [z] at h2; simp at h2
        · rw [z] at h2; simp at h2
        · rw [z] at h2; simp at h2
        · simp [a3, b3, c3]
      | [i], h1, _ => exact absurd (and2 h1).2 (by intro z; cases z)
      | [i, j], h1, _ => exact absurd (and2 (and2 h1).2).2 (by intro z; cases z)
      | i :: j :: k :: l :: r, h1, _ => exact absurd (and2 (and2 (and2 h1).2).2).2 (by intro z; cases z)
  | par2 i j a b =>
    refine ⟨fun st h => ?_, fun sts h => (by cases h)⟩
    obtain ⟨tg, e, p, rfl, q1⟩ := asAsg_i h
    obtain ⟨ts, _, _, rfl, q2⟩ := asTup_i q1
    obtain ⟨t1, t2, rfl, q3⟩ := as2_i q2
    obtain ⟨n, px, rfl, q4⟩ := asNameP_i q3
    obtain ⟨m, py, rfl, q5⟩ := asNameP_i q4
    obtain ⟨es, _, _, rfl, q6⟩ := asTup_i q5
    obtain ⟨x, y, rfl, q7⟩ := as2_i q6
    obtain ⟨h1, q8⟩ := and2 q7
    obtain ⟨h2, q9⟩ := and2 q8
    obtain ⟨h3, q10⟩ := and2 q9
    obtain ⟨h4, q11⟩ := and2 q10
    obtain ⟨h5, q12⟩ := and2 q11
    obtain ⟨h6, q13⟩ := and2 q12
    obtain ⟨h7, q14⟩ := and2 q13
    obtain ⟨h8, q15⟩ := and2 q14
    obtain ⟨h9, h10⟩ := and2 q15
    exact ss_par2 (of_decide_eq_true h1) (of_decide_eq_true h2) (of_decide_eq_true h3) h4 h5 h6 h7 h8 (E h9) (E h10)
  | par3 i j l a b c =>
    refine ⟨fun st h => ?_, fun sts h => (by cases h)⟩
    obtain ⟨tg, e, p, rfl, q1⟩ := asAsg_i h
    obtain ⟨ts, _, _, rfl, q2⟩ := asTup_i q1
    obtain ⟨t1, t2, t3, rfl, q3⟩ := as3_i q2
    obtain ⟨n, px, rfl, q4⟩ := asNameP_i q3
    obtain ⟨m, py, rfl, q5⟩ := asNameP_i q4
    obtain ⟨o, pz, rfl, q6⟩ := asNameP_i q5
    obtain ⟨es, _, _, rfl, q7⟩ := asTup_i q6
    obtain ⟨x, y, z, rfl, q8⟩ := as3_i q7
    obtain ⟨h1, q9⟩ := and2 q8
    obtain ⟨h2, q10⟩ := and2 q9
    obtain ⟨h3, q11⟩ := and2 q10
    obtain ⟨h4, q12⟩ := and2 q11
    obtain ⟨h5, q13⟩ := and2 q12
    obtain ⟨h6, q14⟩ := and2 q13
    obtain ⟨h7, q15⟩ := and2 q14
    obtain ⟨h8, q16⟩ := and2 q15
    obtain ⟨h9, q17⟩ := and2 q16
    obtain ⟨h10, q18⟩ := and2 q17
    obtain ⟨h11, q19⟩ := and2 q18
    obtain ⟨h12, q20⟩ := and2 q19
    obtain ⟨h13, q21⟩ := and2 q20
    obtain ⟨h14, q22⟩ := and2 q21
    obtain ⟨h15, q23⟩ := and2 q22
    obtain ⟨h16, h17⟩ := and2 q23
    exact ss_par3 (of_decide_eq_true h1) (of_decide_eq_true h2) (of_decide_eq_true h3) (of_decide_eq_true h4) (of_decide_eq_true h5) (of_decide_eq_true h6) h7 h8 h9 h10 h11 h12 h13 h14 (E h15) (E h16) (E h17)
  | setix i b a =>
    refine ⟨fun st h => ?_, fun sts h => (by cases h)⟩
    obtain ⟨tg, x, p, rfl, q1⟩ := asAsg_i h
    obtain ⟨o, y, ps, rfl, q2⟩ := asSub_i q1
    obtain ⟨n, px, rfl, q3⟩ := asName_i q2
    obtain ⟨h1, q4⟩ := and2 q3
    obtain ⟨h2, q5⟩ := and2 q4
    obtain ⟨h3, q6⟩ := and2 q5
    obtain ⟨h4, q7⟩ := and2 q6
    obtain ⟨h5, h6⟩ := and2 q7
    exact ss_setix (of_decide_eq_true h1) h2 (not_t h3) (not_t h4) (E h5) (E h6)
  | aug i o a =>
    refine ⟨fun st h => ?_, fun sts h => (by cases h)⟩
    obtain ⟨tg, op, x, p, rfl, q1⟩ := asAug_i h
    obtain ⟨h0, q2⟩ := and2 q1
    obtain ⟨h1, q3⟩ := and2 q2
    obtain ⟨n, px, rfl, q4⟩ := asName_i q3
    obtain ⟨h2, q5⟩ := and2 q4
    obtain ⟨h3, q6⟩ := and2 q5
    obtain ⟨h4, h5⟩ := and2 q6
    rw [of_decide_eq_true h0]
    exact ss_aug (of_decide_eq_true h2) h3 h4 h1 (E h5)
  | augix i b o a =>
    refine ⟨fun st h => ?_, fun sts h => (by cases h)⟩
    obtain ⟨tg, op, x, p, rfl, q1⟩ := asAug_i h
    obtain ⟨h0, q2⟩ := and2 q1
    obtain ⟨h1, q3⟩ := and2 q2
    obtain ⟨ob, y, ps, rfl, q4⟩ := asSub_i q3
    obtain ⟨n, px, rfl, q5⟩ := asName_i q4
    obtain ⟨h2, q6⟩ := and2 q5
    obtain ⟨h3, q7⟩ := and2 q6
    obtain ⟨h4, q8⟩ := and2 q7
    obtain ⟨h5, h6⟩ := and2 q8
    rw [of_decide_eq_true h0]
    exact ss_augix (of_decide_eq_true h2) h3 (not_t h4) h1 (E h5) (E h6)
  | app i a =>
    refine ⟨fun st h => ?_, fun sts h => (by cases h)⟩
    obtain ⟨x, p, rfl, q1⟩ := asExp_i h
    obtain ⟨n, px, m, ap, es, cp, rfl, q2⟩ := asMeth_i q1
    obtain ⟨h1, q3⟩ := and2 q2
    obtain ⟨h2, q4⟩ := and2 q3
    obtain ⟨y, rfl, q5⟩ := as1_i q4
    obtain ⟨h3, q6⟩ := and2 q5
    obtain ⟨h4, q7⟩ := and2 q6
    obtain ⟨h5, h6⟩ := and2 q7
    rw [of_decide_eq_true h2]
    exact ss_app (of_decide_eq_true h5) h6 (not_t h3) h1 (E h4)
  | ret a =>
    refine ⟨fun st h => ?_, fun sts h => (by cases h)⟩
    obtain ⟨x, p, rfl, q1⟩ := asRet_i h
    exact ss_ret (E q1)
  | retN =>
    refine ⟨fun st h => ?_, fun sts h => (by cases h)⟩
    obtain ⟨p, rfl⟩ := isRetN_i h
    exact ss_retN
  | ite c a b iha ihb =>
    refine ⟨fun st h => ?_, fun sts h => (by cases h)⟩
    obtain ⟨x, p, q, pos, rfl, q1⟩ := asIfS_i h
    obtain ⟨h1, q2⟩ := and2 q1
    obtain ⟨h2, q3⟩ := and2 q2
    obtain ⟨h3, h4⟩ := and2 q3
    exact ss_if (T h2 h1) (iha.2 p h3) (ihb.2 q h4)
  | whl c b ih =>
    refine ⟨fun st h => ?_, fun sts h => (by cases h)⟩
    obtain ⟨x, p, pos, rfl, q1⟩ := asWhl_i h
    obtain ⟨h1, q2⟩ := and2 q1
    obtain ⟨h2, h3⟩ := and2 q2
    exact ss_while (T h2 h1) (ih.2 p h3)
  | for_ t src b ih =>
    refine ⟨fun st h => ?_, fun sts h => (by cases h)⟩
    obtain ⟨tg, it, p, pos, rfl, q1⟩ := asFor_i h
    obtain ⟨h1, q2⟩ := and2 q1
    obtain ⟨h2, q3⟩ := and2 q2
    obtain ⟨h3, q4⟩ := and2 q3
    obtain ⟨h4, h5⟩ := and2 q4
    exact ss_for (not_t h1) h2 ((main_ok src).2.2 Γ W tg it g0 h4) ((tg_ok t).1 tg h3) (ih.2 p h5)
  | brk => exact ⟨fun st h => ss_brk h, fun sts h => (by cases h)⟩
  | cnt => exact ⟨fun st h => ss_cnt h, fun sts h => (by cases h)⟩
  | pass => exact ⟨fun st h => ss_pass h, fun sts h => (by cases h)⟩
  | never => exact ⟨fun st h => ss_never, fun sts h => (by cases h)⟩
end
end Ev
set_option Elab.async false
set_option linter.all false
set_option maxRecDepth 100000
set_option maxHeartbeats 4000000
set_option autoImplicit false
/-! Ev14: defs, the table of all defs, the law's end. -/
namespace Ev
open PySem PySem.Spec PyProof.Rows L2
/-- a def of the table: its text, its tree -/
structure Ent where
  name : Str
  np : Nat
  N : List Str
  io : Bool
  ir : Sm
  params : Arguments
  body : List PySem.Stmt
  scope : Scope
def Ent.fi (E : Ent) : FnI := ⟨E.name, E.N.take E.np, E.io⟩
def Ent.fn (E : Ent) : Fn := ⟨E.np, E.N.length, E.io, E.ir⟩
def Ent.gam (E : Ent) (fns : List FnI) (gls : List Str) : Gam := ⟨E.N, E.scope, none, fns, gls⟩
def nodupB : List Str → Bool
  | [] => true
  | x :: r => !r.contains x && nodupB r
theorem nodupB_ok : ∀ {l : List Str}, nodupB l = true → l.Nodup
  | [], _ => List.nodup_nil
  | x :: r, h => by
    obtain ⟨h1, h2⟩ := and2 h
    refine List.nodup_cons.mpr ⟨fun z => ?_, nodupB_ok h2⟩
    have := List.contains_iff_mem.mpr z
    rw [this] at h1
    cases h1
def scopeB (N : List Str) (np : Nat) (sc : Scope) : Bool :=
  (match sc.kind with | .function => true | _ => false) && (!sc.isCoroutine && (!sc.isGenerator && (nodupB N && (decide (np ≤ N.length) && ((N.take np).all (fun x => match sc.names.lookup x with
    | some .local => true
    | some .cell => true
    | _ => false) && sc.names.all fun y => match y.2 with
    | .free => false
    | _ => true)))))
theorem scopeB_ok {N : List Str} {np : Nat} {sc : Scope} (h : scopeB N np sc = true) : FnScope N (N.take np) sc ∧ np ≤ N.length := by
  unfold scopeB at h
  obtain ⟨h1, h⟩ := and2 h
  obtain ⟨h2, h⟩ := and2 h
  obtain ⟨h3, h⟩ := and2 h
  obtain ⟨h4, h⟩ := and2 h
  obtain ⟨h5, h⟩ := and2 h
  obtain ⟨h6, h7⟩ := and2 h
  have h5 : np ≤ N.length := of_decide_eq_true h5
  refine ⟨⟨?_, not_t h2, not_t h3, nodupB_ok h4, ?_, fun x hx => ?_, fun y hy z => ?_⟩, h5⟩
  · split at h1
    · assumption
    · cases h1
  · rw [List.length_take, Nat.min_eq_left h5]
  · have q := List.all_eq_true.mp h6 x hx
    split at q
    · rename_i e; exact .inl e
    · rename_i e; exact .inr e
    · cases q
  · have q := List.all_eq_true.mp h7 y hy
    rw [z] at q
    cases q
def entB (fns : List FnI) (gls : List Str) (E : Ent) : Bool := scopeB E.N E.np E.scope && (mSs (E.gam fns gls) E.io E.ir E.body && (!E.io || decide (0 < E.np)))
section
variable {RX : RXT} {K : PySem.W.Frag} {B : Addr → Prop} {args : List Sl} {vs : List V} {e' : Env} {σ' : L2.St} {H H' : Hp}
theorem app_none {a : Type} {l : List (Option a)} {m i : Nat} {x : a} (h : (l ++ List.replicate m none)[i]? = some (some x)) : l[i]? = some (some x) := by
  by_cases hi : i < l.length
  · rw [List.getElem?_append_left hi] at h
    exact h
  · rw [List.getElem?_append_right (by omega), List.getElem?_replicate] at h
    split at h <;> cases h
theorem app_some {a : Type} {l : List (Option a)} {m i : Nat} {x : Option a} (h : l[i]? = some x) : (l ++ List.replicate m none)[i]? = some x := by
  rw [List.getElem?_append_left (List.getElem?_eq_some_iff.mp h).1]
  exact h
theorem own_more {e : Env} {σ : L2.St} {m n : Nat} {a : Addr} : OwnAt (e ++ List.replicate m none) (σ ++ List.replicate n none) a ↔ OwnAt e σ a :=
  ⟨fun ⟨i, ds, h1, h2⟩ => ⟨i, ds, app_none h1, app_none h2⟩, fun ⟨i, ds, h1, h2⟩ => ⟨i, ds, app_some h1, app_some h2⟩⟩
theorem RSt.more {e : Env} {σ : L2.St} (rs : RSt K B H e σ) (m : Nat) : RSt K B H (e ++ List.replicate m none) (σ ++ List.replicate m none) := by
  have of : ∀ a, Of B (e ++ List.replicate m none) (σ ++ List.replicate m none) a → Of B e σ a := fun a h => h.imp id own_more.mp
  refine ⟨by rw [List.length_append, List.length_append, rs.len, List.length_replicate, List.length_replicate], fun i d h => ?_, fun i ds h => ?_, fun i j ds es a h1 h2 h3 h4 => rs.inj i j ds es a (app_none h1) (app_none h2) (app_none h3) (app_none h4), rs.bnd⟩
  · obtain ⟨v, w1, w2⟩ := rs.val i d (app_none h)
    exact ⟨v, app_some w1, Rp.mono (S := fun _ => False) ⟨fun _ _ q _ => q, fun _ z => z.elim⟩ (fun _ z => z.elim) (fun b q => .inl (of b q)) w2⟩
  · obtain ⟨a, us, w1, w2, w3, w4⟩ := rs.own i ds (app_none h)
    exact ⟨a, us, app_some w1, w2, w3, Rps.mono (S := fun _ => False) ⟨fun _ _ q _ => q, fun _ z => z.elim⟩ (fun _ z => z.elim) (fun b q => .inl (of b q)) w4⟩
def allVal (l : List Sl) : Bool := l.all fun | .val _ => true | _ => false
theorem no_ownV (h : allVal args = true) {i : Nat} {ds : List D} : (args.map some)[i]? ≠ some (some (Sl.own ds)) := fun z => by
  rw [List.getElem?_map] at z
  cases q : args[i]? with
  | none => rw [q] at z; cases z
  | some x =>
    rw [q] at z
    cases z
    have := List.all_eq_true.mp h _ (List.mem_of_getElem? q)
    cases this
/-- values alone: as they were -/
theorem back_vals {m n : Nat} (h : allVal args = true) (rs : RSt K B H (args.map some) (vs.map some)) (rs' : RSt K B H' e' σ') (st : Stp H (args.map some ++ List.replicate m none) (vs.map some ++ List.replicate n none) H' e' σ') :
    RSt K B H' (args.map some) (vs.map some) ∧ Stp H (args.map some) (vs.map some) H' (args.map some) (vs.map some) ∧ ∀ a, Of B (args.map some) (vs.map some) a → Of B e' σ' a := by
  have no : ∀ a, ¬ OwnAt (args.map some) (vs.map some) a := fun a ⟨i, ds, h1, _⟩ => no_ownV h h1
  have s : Stp H (args.map some) (vs.map some) H' (args.map some) (vs.map some) := ⟨fun a o q n => st.fr a o q fun z => n (own_more.mp z), st.al, fun a z => (no a z).elim⟩
  refine ⟨⟨rs.len, fun i d q => ?_, fun i ds q => (no_ownV h q).elim, fun i j ds es a q => (no_ownV h q).elim, rs'.bnd⟩, s, fun a z => z.elim .inl fun w => (no a w).elim⟩
  obtain ⟨v, w1, w2⟩ := rs.val i d q
  exact ⟨v, w1, rs.keep s w2⟩
/-- the first one's own list, the others as they were -/
theorem back_io {m n : Nat} {cs0 cs : List D} {r : List Sl} (h : allVal r = true) (rs : RSt K B H ((Sl.own cs0 :: r).map some) (vs.map some)) (rs' : RSt K B H' e' σ')
    (st : Stp H ((Sl.own cs0 :: r).map some ++ List.replicate m none) (vs.map some ++ List.replicate n none) H' e' σ') (hc : e'[0]? = some (some (Sl.own cs))) (h0 : σ'[0]? = (vs.map some ++ List.replicate n none)[0]?) :
    RSt K B H' ((Sl.own cs :: r).map some) (vs.map some) ∧ Stp H ((Sl.own cs0 :: r).map some) (vs.map some) H' ((Sl.own cs :: r).map some) (vs.map some) ∧ ∀ a, Of B ((Sl.own cs :: r).map some) (vs.map some) a → Of B e' σ' a := by
  obtain ⟨p, us0, w1, w2, w3, w4⟩ := rs.own 0 cs0 rfl
  obtain ⟨p', us, x1, x2, x3, x4⟩ := rs'.own 0 cs hc
  rw [h0, app_some w1] at x1
  cases x1
  have at0 : ∀ {c : List D} {i : Nat} {ds : List D}, ((Sl.own c :: r).map some)[i]? = some (some (Sl.own ds)) → i = 0 ∧ ds = c := fun {c i ds} z => by
    cases i with
    | zero => cases z; exact ⟨rfl, rfl⟩
    | succ i => exact (no_ownV h (i := i) z).elim
  have own1 : ∀ {c : List D} {a : Addr}, OwnAt ((Sl.own c :: r).map some) (vs.map some) a → a = p := fun {c a} ⟨i, ds, h1, h2⟩ => by
    obtain ⟨rfl, rfl⟩ := at0 h1
    rw [w1] at h2
    cases h2
    rfl
  have own2 : OwnAt ((Sl.own cs0 :: r).map some) (vs.map some) p := ⟨0, cs0, rfl, w1⟩
  have of : ∀ a, Of B ((Sl.own cs :: r).map some) (vs.map some) a → Of B e' σ' a := fun a z => z.elim .inl fun w => .inr ⟨0, cs, hc, by rw [own1 w, h0]; exact app_some w1⟩
  have s : Stp H ((Sl.own cs0 :: r).map some) (vs.map some) H' ((Sl.own cs :: r).map some) (vs.map some) := ⟨fun a o q n => st.fr a o q fun z => n (own_more.mp z), st.al, fun a z => .inl (by rw [own1 z]; exact own2)⟩
  refine ⟨⟨?_, fun i d q => ?_, fun i ds q => ?_, fun i j ds es a q1 q2 _ _ => (at0 q1).1.trans (at0 q2).1.symm, rs'.bnd⟩, s, of⟩
  · have := rs.len
    rw [List.length_map, List.length_cons] at this
    rw [List.length_map, List.length_cons]
    exact this
  · have q' : ((Sl.own cs0 :: r).map some)[i]? = some (some (Sl.val d)) := by
      cases i with
      | zero => cases q
      | succ i => exact q
    obtain ⟨v, y1, y2⟩ := rs.val i d q'
    exact ⟨v, y1, rs.keep s y2⟩
  · obtain ⟨rfl, rfl⟩ := at0 q
    exact ⟨p, us, w1, x2, x3, Rps.mono (S := fun _ => False) ⟨fun _ _ q _ => q, fun _ z => z.elim⟩ (fun _ z => z.elim) (fun b q => .inl (of b q)) x4⟩
end
/-! ### the table -/
section
variable {RX : RXT} {P : Program} {w : World} {K : PySem.W.Frag} {mg : Str → Option Value} {base : Heap} {glob : Nat → D} {gv : Nat → V} {fuel : Nat} {E : List Ent} {gls : List Str} {ad : Nat → Addr} {fd : Nat → FuncData}
theorem fn_get {i : Nat} {F : Fn} (h : (E.map Ent.fn)[i]? = some F) : ∃ e, E[i]? = some e ∧ F = e.fn := by
  rw [List.getElem?_map] at h
  cases q : E[i]? with
  | none => rw [q] at h; cases h
  | some e => rw [q] at h; cases h; exact ⟨e, rfl, rfl⟩
theorem fi_get {i : Nat} {F : FnI} (h : (E.map Ent.fi)[i]? = some F) : ∃ e, E[i]? = some e ∧ F = e.fi := by
  rw [List.getElem?_map] at h
  cases q : E[i]? with
  | none => rw [q] at h; cases h
  | some e => rw [q] at h; cases h; exact ⟨e, rfl, rfl⟩
theorem fits_len {F : Fn} {args : List Sl} (h : argsFit F args = true) : args.length = F.np := by
  unfold argsFit at h
  simpa using (and2 h).1
theorem st0_ok (hK : E.all (entB (E.map Ent.fi) gls) = true) (hgd : ∀ (g : Nat) (n : Str), gls[g]? = some n → ∀ O H, Rp K O H (glob g) (gv g)) (n : Nat) (Γ : Gam) (hf : Γ.fns = E.map Ent.fi) (hg : Γ.gls = gls) :
    St0 Γ ⟨callN glob fuel (E.map Ent.fn) n, glob, fuel⟩ gv K := by
  refine ⟨fun f fi args h hne => ?_, fun g x h => hgd g x (by rw [← hg]; exact h)⟩
  rw [hf] at h
  obtain ⟨e, he, rfl⟩ := fi_get h
  show callN glob fuel (E.map Ent.fn) n f args = .no
  cases n with
  | zero => rfl
  | succ n =>
    have hm : (E.map Ent.fn)[f]? = some e.fn := by rw [List.getElem?_map, he]; rfl
    have hb := List.all_eq_true.mp hK e (List.mem_of_getElem? he)
    have hl := (scopeB_ok (and2 hb).1).2
    unfold callN
    rw [hm]
    show (if argsFit e.fn args = true then _ else O.no) = O.no
    rw [if_neg]
    intro z
    refine hne ?_
    rw [fits_len z]
    show e.np = (e.N.take e.np).length
    rw [List.length_take, Nat.min_eq_left hl]
theorem lev (hD : ∀ (i : Nat) (e : Ent), E[i]? = some e → FunD K e.name e.name e.params e.body e.scope [] [] (ad i) (fd i)) (hG : ∀ (i : Nat) (e : Ent), E[i]? = some e → mg e.name = some (.ref (ad i)))
    (hB : ∀ (i : Nat) (e : Ent), E[i]? = some e → Binds K (fd i) (e.N.take e.np) []) (hK : E.all (entB (E.map Ent.fi) gls) = true) (hgl : ∀ (g : Nat) (n : Str), gls[g]? = some n → ∃ u, mg n = some u ∧ RelV (gv g) u)
    (hgd : ∀ (g : Nat) (n : Str), gls[g]? = some n → ∀ O H, Rp K O H (glob g) (gv g)) (hbt : ∀ n, n ∈ bltNames → mg n = none) :
    ∀ (n i : Nat) (e : Ent), E[i]? = some e → FnOk P w K mg base (L2.CX P w) n (ad i) (fd i) (e.N.take e.np) (spF RX K (callN glob fuel (E.map Ent.fn) n) i (e.N.take e.np).length) := by
  intro n
  induction n with
  | zero =>
    intro i e he
    refine ⟨fun vs H Q Ex h => h.1, fun A outer s H args us vs Q Ex hr e0 hb hv hsp => ?_⟩
    obtain ⟨_, B, as, _, h⟩ := hsp
    exact h.elim
  | succ n ih =>
    intro i e he
    have hb := List.all_eq_true.mp hK e (List.mem_of_getElem? he)
    obtain ⟨hb1, hb2⟩ := and2 hb
    obtain ⟨hb2, hb3⟩ := and2 hb2
    obtain ⟨S, hl⟩ := scopeB_ok hb1
    have hpl : (e.N.take e.np).length = e.np := by rw [List.length_take, Nat.min_eq_left hl]
    refine (hD i e he).ok S (fun vs H Q Ex h => h.1) fun cdv A outer s H vs Q Ex hr hsp => ?_
    have g0 : St0 (e.gam (E.map Ent.fi) gls) ⟨callN glob fuel (E.map Ent.fn) n, glob, fuel⟩ gv K := st0_ok hK hgd n _ rfl rfl
    obtain ⟨t, pt, qt⟩ := (main_s (RX := RX) (W := fun cls d _ H' => Ex cls d H') (io := e.io) g0 e.ir).2 e.body hb2
    refine ⟨t, pt (cxOf (L2.CX P w) P w K mg base e.N e.name e.scope (ad i) cdv A outer s H Ex) ?_ rfl, ?_⟩
    · refine ⟨⟨rfl, S.nd, rfl, rfl, S.kind, fun _ _ => rfl, L2.takes_of rfl rfl rfl rfl, ?_, fun f fi hf => ?_, fun g x hx => hgl g x hx, fun x hx => hbt x hx⟩, L2.passes_of rfl⟩
      · have := hr.un
        show (A.deeper _).units + 65 < cLine
        omega
      · obtain ⟨e2, he2, rfl⟩ := fi_get hf
        exact ⟨ad f, fd f, n, hG f e2 he2, (hD f e2 he2).kp, hB f e2 he2, hr, ih f e2 he2⟩
    · obtain ⟨hlen, B, args, rs, h⟩ := hsp
      have hm : (E.map Ent.fn)[i]? = some e.fn := by rw [List.getElem?_map, he]; rfl
      have h : (match (match (E.map Ent.fn)[i]? with
          | none => O.no
          | some F => if argsFit F args = true then runFn ⟨callN glob fuel (E.map Ent.fn) n, glob, fuel⟩ F args else .no) with
        | .ok d cs => ∀ v H', RSt K B H' ((retArgs args cs).map some) (vs.map some) → Stp H (args.map some) (vs.map some) H' ((retArgs args cs).map some) (vs.map some) → Rp K (Of B ((retArgs args cs).map some) (vs.map some)) H' d v → Q v H'
        | .ex x => ∀ cl dd H', RSt K B H' (args.map some) (vs.map some) → Stp H (args.map some) (vs.map some) H' (args.map some) (vs.map some) → RX x cl dd H' → Ex cl dd H'
        | .no => False) := h
      rw [hm] at h
      by_cases hfit : argsFit e.fn args = true
      case neg =>
        simp only [if_neg hfit] at h
      case pos =>
      simp only [if_pos hfit] at h
      have hal : args.length = e.np := fits_len hfit
      have hvl : vs.length = e.np := hlen.trans hpl
      have es : L2.start e.N vs = vs.map some ++ List.replicate (e.N.length - e.np) none := by unfold L2.start; rw [hvl]
      rw [es]
      refine qt B (args.map some ++ List.replicate (e.N.length - e.np) none) (vs.map some ++ List.replicate (e.N.length - e.np) none) H _ (rs.more _) ?_
      unfold runFn at h
      have h : (match (match denS ⟨callN glob fuel (E.map Ent.fn) n, glob, fuel⟩ e.ir (args.map some ++ List.replicate (e.N.length - e.np) none) with
          | .ok .nx e' => endOf e.io .non e'
          | .ok (.rt d) e' => endOf e.io d e'
          | .ex x _ => match e.io with
            | false => O.ex x
            | true => .no
          | _ => .no) with
        | .ok d cs => ∀ v H', RSt K B H' ((retArgs args cs).map some) (vs.map some) → Stp H (args.map some) (vs.map some) H' ((retArgs args cs).map some) (vs.map some) → Rp K (Of B ((retArgs args cs).map some) (vs.map some)) H' d v → Q v H'
        | .ex x => ∀ cl dd H', RSt K B H' (args.map some) (vs.map some) → Stp H (args.map some) (vs.map some) H' (args.map some) (vs.map some) → RX x cl dd H' → Ex cl dd H'
        | .no => False) := h
      -- what the arguments are
      have shape : (e.io = false ∧ allVal args = true) ∨ ∃ cs0 r, e.io = true ∧ args = Sl.own cs0 :: r ∧ allVal r = true := by
        unfold argsFit at hfit
        obtain ⟨_, f2⟩ := and2 hfit
        cases args with
        | nil =>
          obtain ⟨f3, f4⟩ := and2 f2
          exact .inl ⟨not_t f3, f4⟩
        | cons a r =>
          cases a with
          | own cs0 =>
            obtain ⟨f3, f4⟩ := and2 f2
            exact .inr ⟨cs0, r, f3, rfl, f4⟩
          | val d =>
            obtain ⟨f3, f4⟩ := and2 f2
            exact .inl ⟨not_t f3, f4⟩
      have fin : ∀ (d : D) (e' : Env), (match endOf e.io d e' with
        | .ok d cs => ∀ v H', RSt K B H' ((retArgs args cs).map some) (vs.map some) → Stp H (args.map some) (vs.map some) H' ((retArgs args cs).map some) (vs.map some) → Rp K (Of B ((retArgs args cs).map some) (vs.map some)) H' d v → Q v H'
        | .ex x => ∀ cl dd H', RSt K B H' (args.map some) (vs.map some) → Stp H (args.map some) (vs.map some) H' (args.map some) (vs.map some) → RX x cl dd H' → Ex cl dd H'
        | .no => False) → ∀ σ' H', RSt K B H' e' σ' → Stp H (args.map some ++ List.replicate (e.N.length - e.np) none) (vs.map some ++ List.replicate (e.N.length - e.np) none) H' e' σ' →
          (e.io = true → σ'[0]? = (vs.map some ++ List.replicate (e.N.length - e.np) none)[0]?) → ∀ v, Rp K (Of B e' σ') H' d v → Q v H' := by
        intro d e' h σ' H' rs' st' pin v rv
        rcases shape with ⟨hio, hav⟩ | ⟨cs0, r, hio, rfl, hav⟩
        · rw [hio] at h
          have hra : retArgs args [] = args := by
            cases args with
            | nil => rfl
            | cons a r => cases a with
              | val d => rfl
              | own _ => cases hav
          obtain ⟨b1, b2, b3⟩ := back_vals hav rs rs' st'
          have h : ∀ v H', RSt K B H' ((retArgs args []).map some) (vs.map some) → Stp H (args.map some) (vs.map some) H' ((retArgs args []).map some) (vs.map some) → Rp K (Of B ((retArgs args []).map some) (vs.map some)) H' d v → Q v H' := h
          rw [hra] at h
          exact h v H' b1 b2 (Rp.mono (S := fun _ => False) ⟨fun _ _ q _ => q, fun _ z => z.elim⟩ (fun _ z => z.elim) (fun b q => .inl (b3 b q)) rv)
        · rw [hio] at h
          unfold endOf at h
          cases hc : getO e' 0 with
          | none => rw [hc] at h; exact h.elim
          | some cs =>
            rw [hc] at h
            obtain ⟨b1, b2, b3⟩ := back_io hav rs rs' st' (getO_own hc) (pin hio)
            exact h v H' b1 b2 (Rp.mono (S := fun _ => False) ⟨fun _ _ q _ => q, fun _ z => z.elim⟩ (fun _ z => z.elim) (fun b q => .inl (b3 b q)) rv)
      cases hr2 : denS ⟨callN glob fuel (E.map Ent.fn) n, glob, fuel⟩ e.ir (args.map some ++ List.replicate (e.N.length - e.np) none) with
      | ok fl e' =>
        rw [hr2] at h
        intro σ' H' rs' st' pin
        cases fl with
        | nx => exact fin .non e' h σ' H' rs' st' pin .non (by unfold Rp; rfl)
        | rt d => exact fin d e' h σ' H' rs' st' pin
        | bk => exact h.elim
        | ct => exact h.elim
      | ex x e' =>
        rw [hr2] at h
        intro σ' c dd H' rs' st' rx
        rcases shape with ⟨hio, hav⟩ | ⟨cs0, r, hio, rfl, hav⟩
        · rw [hio] at h
          obtain ⟨b1, b2, b3⟩ := back_vals hav rs rs' st'
          exact h c dd H' b1 b2 rx
        · rw [hio] at h
          exact h.elim
      | no => rw [hr2] at h; exact h.elim
/-- the law's promise -/
theorem law_sp {c : Call} {f : Nat} {H : Hp} {a : Addr} {ns : List Int} {cs : List D} (hS : SqL K H a (ns.map V.int)) (hO : Only H) (h : c f [.val (.fz (ns.map D.int))] = .ok (.bl true) cs) :
    spF RX K c f 1 [.ref a] H (fun v _ => v = .bl true) fun _ _ _ => False := by
  refine ⟨rfl, fun _ => False, [.val (.fz (ns.map D.int))], ⟨rfl, fun i d q => ?_, fun i ds q => ?_, fun i j ds es b q => ?_, fun b z => z.elim⟩, ?_⟩
  · cases i with
    | zero =>
      cases q
      refine ⟨.ref a, rfl, ?_⟩
      unfold Rp
      refine ⟨a, ns.map V.int, rfl, ?_, Rps.ints ns⟩
      rcases hS with (hS | hS) | hS
      · rcases hO a with z | ⟨o, xs, z⟩
        · rw [hS] at z; cases z
        · rw [hS] at z; cases z
      · exact .inr hS
      · exact .inl hS
    | succ i => cases q
  · cases i with
    | zero => cases q
    | succ i => cases q
  · cases i with
    | zero => cases q
    | succ i => cases q
  · rw [h]
    exact fun v H' _ _ r => r.unbl
theorem cx_no {H : Hp} {s : Shared} {e : Value} {s' : Shared} (h : L2.CX P w [] H s (fun _ _ _ => False) e s') : False := by
  obtain ⟨_, _, _, _, _, _, _, _, _, _, _, _, z⟩ := h
  exact z.elim
end
end Ev
set_option Elab.async false
set_option linter.all false
set_option maxRecDepth 100000
set_option maxHeartbeats 4000000
set_option autoImplicit false
/-! Ev15: from the head's facts to the law's def. -/
namespace Ev
open PySem PySem.Spec PyProof.Rows L2
/-- the end: what the law's def may let out hangs on the world -/
theorem walkW {l : PySem.W.OpenLaw} {m kk : Nat} {qq : Program} {ls : List Str} {X1 : (Str → Option Value) → Heap → Prop} {Y1 : World → Heap → Prop} {dr : DefRec} {CX : World → CXT} {x : Str} (h1 : l.most = some m) (h2 : m ≤ sizeLine) (h3 : dr.params.defaults = []) (h4 : Room kk callerA)
    (F : ∀ (w : World) (mg : Str → Option Value) (fa : Addr) (h : Heap), Y1 w h → h.Ns mainGlobals mg → mg dr.name = some (.ref fa) → ∃ (K : PySem.W.Frag) (fd : FuncData) (sp : Sp), K.In h ∧ (∀ (s : Shared) (u : Value), BindsTo s fd ⟨[u], []⟩ [(x, u)]) ∧
      (∀ (H : Hp) (a : Addr) (ns : List Int), ns.length ≤ m → Only H → SqL K H a (ns.map V.int) → sp [.ref a] H (fun v _ => v = .bl true) fun _ _ _ => False) ∧ ∀ base : Heap, K.In base → base.Ns mainGlobals mg → FnOk l.prog w K mg base (CX w) kk fa fd [x] sp)
    (h5 : ∀ (w : World) (H : Hp) (s : Shared) (e : Value) (s' : Shared), CX w [] H s (fun _ _ _ => False) e s' → False) : PySem.W.WalkO qq ls X1 Y1 l.row.toRowW dr [] (fun f vs => PySem.call f vs) := by
  refine Att.attach_call h1 h3 fun w1 c0 c1 gm gb lf ob pc dc dd la its zs g0 y0 g1 g2 g3 g4 g5 g6 g7 g8 => ?_
  obtain ⟨K, fd, sp, k1, k2, k3, k4⟩ := F w1 gm lf _ y0 g0.T.g g4
  exact law_call k1 g0.T.g g0.T.b g0.T.builtins g0.T.nolimit g8 g5 g6 (Nat.le_trans g7 h2) h4 k4 k2 (fun H o q => k3 H la zs g7 o q) fun H e s' z => h5 w1 H c1 e s' z
def dOf (e : Ent) : He.DefD := ⟨(e.name, none), e.name, e.name, e.params, e.body, e.scope, [], []⟩
def faOf (E : List Ent) (gls : List Str) (glv : List Int) : List He.Fa := E.map (fun e => He.Fa.glo e.name) ++ (bltNames.map He.Fa.free ++ (gls.zip glv).map fun q => He.Fa.int q.1 q.2)
def globI (glv : List Int) (g : Nat) : D := .int (glv.getD g 0)
def RX0 : RXT := fun _ _ _ _ => False
section
variable {P : Program} {w : World} {K : PySem.W.Frag} {h : Heap} {mg : Str → Option Value} {f : Addr} {E : List Ent} {gls : List Str} {glv : List Int}
theorem SaysD.fact_mem {fa : List He.Fa} {fn : List He.DefD} (c : He.SaysD fa fn K) {a : He.Fa} (hm : a ∈ fa) : a.ok K = true := by
  obtain ⟨i, hi⟩ := List.mem_iff_getElem?.mp hm
  exact c.fact i hi
theorem facts_of {lk : Nat} {enL : Ent} {x : Str} (X : K.In h) (G : h.Ns mainGlobals mg) (hfa : mg enL.name = some (.ref f)) (c : He.SaysD (faOf E gls glv) (E.map dOf) K) (depth fuel : Nat) (hl : E[lk]? = some enL) (hx : enL.N.take enL.np = [x])
    (hK : E.all (entB (E.map Ent.fi) gls) = true) (hlen : gls.length = glv.length)
    (hbd : ∀ (i : Nat) (e : Ent), E[i]? = some e → ∀ {f : Addr} {fd : FuncData}, FunD K e.name e.name e.params e.body e.scope [] [] f fd → Binds K fd (e.N.take e.np) [])
    (hbA : ∀ {f : Addr} {fd : FuncData}, FunD K enL.name enL.name enL.params enL.body enL.scope [] [] f fd → ∀ (s : Shared) (v : Value), BindsTo s fd ⟨[v], []⟩ [(x, v)]) :
    ∃ fd : FuncData, (∀ (s : Shared) (v : Value), BindsTo s fd ⟨[v], []⟩ [(x, v)]) ∧ ∀ base : Heap, K.In base → base.Ns mainGlobals mg → FnOk P w K mg base (L2.CX P w) depth f fd [x] (spF RX0 K (callN (globI glv) fuel (E.map Ent.fn) depth) lk 1) := by
  have hD0 : ∀ (i : Nat) (e : Ent), E[i]? = some e → ∃ fd, FunD K e.name e.name e.params e.body e.scope [] [] (He.ga K e.name) fd := fun i e he =>
    c.def_ i (d := dOf e) (by rw [List.getElem?_map, he]; rfl)
  obtain ⟨fd0, F0⟩ := hD0 lk enL hl
  have hD1 : ∀ i : Nat, ∃ fd, ∀ (e : Ent), E[i]? = some e → FunD K e.name e.name e.params e.body e.scope [] [] (He.ga K e.name) fd := fun i => by
    cases q : E[i]? with
    | none => exact ⟨fd0, fun e z => by cases z⟩
    | some e =>
      obtain ⟨fd, F⟩ := hD0 i e q
      exact ⟨fd, fun e' z => by cases z; exact F⟩
  obtain ⟨fdF, hD⟩ := Classical.axiomOfChoice hD1
  have hglo : ∀ (i : Nat) (e : Ent), E[i]? = some e → mg e.name = some (.ref (He.ga K e.name)) := fun i e he =>
    He.glo_ok X G (SaysD.fact_mem c (a := .glo e.name) (List.mem_append_left _ (List.mem_map.mpr ⟨e, List.mem_of_getElem? he, rfl⟩)))
  have hfree : ∀ n, n ∈ bltNames → mg n = none := fun n hn =>
    He.free_ok X G (SaysD.fact_mem c (a := .free n) (List.mem_append_right _ (List.mem_append_left _ (List.mem_map.mpr ⟨n, hn, rfl⟩))))
  have hint : ∀ (g : Nat) (n : Str), gls[g]? = some n → ∃ u, mg n = some u ∧ RelV (V.int (glv.getD g 0)) u := fun g n hg => by
    have hi : g < gls.length := (List.getElem?_eq_some_iff.mp hg).1
    have hv : glv[g]? = some (glv.getD g 0) := by
      rw [List.getD_eq_getElem?_getD, List.getElem?_eq_getElem (by omega)]
      rfl
    have hm : (n, glv.getD g 0) ∈ gls.zip glv := by
      refine List.mem_of_getElem? (i := g) ?_
      rw [List.getElem?_zip_eq_some]
      exact ⟨hg, hv⟩
    obtain ⟨t, ht⟩ := He.int_ok X G (SaysD.fact_mem c (a := .int n (glv.getD g 0)) (List.mem_append_right _ (List.mem_append_right _ (List.mem_map.mpr ⟨_, hm, rfl⟩))))
    exact ⟨_, ht, t, rfl⟩
  have e := hfa.symm.trans (hglo lk enL hl)
  cases e
  refine ⟨fdF lk, fun s v => hbA (hD lk enL hl) s v, fun base hb hN => ?_⟩
  have q := lev (RX := RX0) (P := P) (w := w) (K := K) (mg := mg) (base := base) (glob := globI glv) (gv := fun g => V.int (glv.getD g 0)) (fuel := fuel) (E := E) (gls := gls) (ad := fun i => match E[i]? with
    | some e => He.ga K e.name
    | none => 0) (fd := fdF) (fun i e he => by simp only [he]; exact hD i e he) (fun i e he => by simp only [he]; exact hglo i e he) (fun i e he => hbd i e he (hD i e he)) hK hint (fun g n _ O H => by unfold globI Rp; rfl) hfree depth lk enL hl
  simp only [hl, hx] at q
  exact q
end
end Ev
set_option Elab.async false
set_option linter.all false
set_option maxRecDepth 100000
set_option maxHeartbeats 4000000
/-! the trees of the linked text (printed) -/
namespace Lw
open PySem Ev
def top (i : Nat) : PySem.Stmt := PySem.Challenge.pw_meshcore_k27_whole_halving_both.main.body.getD i (.Pass ⟨0, 0, 0, 0⟩)
/-- 0 -/
def ir0 : Sm := (.cons (.ret (.and (.isi .isInt (.var 0)) (.and (.not (.isi .isBool (.var 0))) (.cmp2 .le .le (.var 1) (.var 0) (.var 2))))) .nil)
def en0 : Ent := { name := "is_in", np := 3, N := ["value", "least", "most"], io := false, ir := ir0, params := L2.defArgs (top 6), body := L2.defBody (top 6), scope := L2.defScope (top 6) }
/-- 1 -/
def ir1 : Sm := (.cons (.par2 0 1 (.prim .abs (.cons (.var 0) .nil)) (.prim .abs (.cons (.var 1) .nil))) (.cons (.whl (.cmp .ne (.var 1) (.lit (.int 0))) (.cons (.par2 0 1 (.var 1) (.bin .mod (.var 0) (.var 1))) .nil)) (.cons (.ret (.var 0)) .nil)))
def en1 : Ent := { name := "gcd", np := 2, N := ["one", "other"], io := false, ir := ir1, params := L2.defArgs (top 7), body := L2.defBody (top 7), scope := L2.defScope (top 7) }
/-- 2 -/
def ir2 : Sm := (.cons (.ret (.bin .sub (.cmp .gt (.var 0) (.lit (.int 0))) (.cmp .lt (.var 0) (.lit (.int 0))))) .nil)
def en2 : Ent := { name := "sign", np := 1, N := ["number"], io := false, ir := ir2, params := L2.defArgs (top 8), body := L2.defBody (top 8), scope := L2.defScope (top 8) }
/-- 3 -/
def ir3 : Sm := (.cons (.ite (.or (.not (.isi .isTup (.var 0))) (.cmp .ne (.prim .len (.cons (.var 0) .nil)) (.lit (.int 3)))) (.cons (.ret (.lit (.bl false))) .nil) .nil) (.cons (.ite (.or (.not (.call 0 none (.cons (.ix (.var 0) (.lit (.int 0))) (.cons (.neg (.gval 0)) (.cons (.gval 0) .nil))))) (.not (.call 0 none (.cons (.ix (.var 0) (.lit (.int 1))) (.cons (.neg (.gval 0)) (.cons (.gval 0) .nil)))))) (.cons (.ret (.lit (.bl false))) .nil) .nil) (.cons (.ret (.and (.call 0 none (.cons (.ix (.var 0) (.lit (.int 2))) (.cons (.lit (.int 1)) (.cons (.gval 0) .nil)))) (.cmp .eq (.call 1 none (.cons (.call 1 none (.cons (.ix (.var 0) (.lit (.int 0))) (.cons (.ix (.var 0) (.lit (.int 1))) .nil))) (.cons (.ix (.var 0) (.lit (.int 2))) .nil))) (.lit (.int 1))))) .nil)))
def en3 : Ent := { name := "is_point", np := 1, N := ["value"], io := false, ir := ir3, params := L2.defArgs (top 12), body := L2.defBody (top 12), scope := L2.defScope (top 12) }
/-- 4 -/
def ir4 : Sm := (.cons (.ite (.or (.not (.isi .isTup (.var 0))) (.not (.cmp2 .le .le (.lit (.int 1)) (.prim .len (.cons (.var 0) .nil)) (.gval 1)))) (.cons .never .nil) .nil) (.cons (.for_ (.nm 1) (.rng1 (.prim .len (.cons (.var 0) .nil))) (.cons (.ite (.or (.not (.call 3 none (.cons (.ix (.var 0) (.var 1)) .nil))) (.cmp .mem (.ix (.var 0) (.var 1)) (.sl (.var 0) (.lit .non) (.var 1)))) (.cons .never .nil) .nil) .nil)) .nil))
def en4 : Ent := { name := "need_points", np := 1, N := ["value", "at"], io := false, ir := ir4, params := L2.defArgs (top 13), body := L2.defBody (top 13), scope := L2.defScope (top 13) }
/-- 5 -/
def ir5 : Sm := (.cons (.asg (.nm 3) (.bin .mul (.ix (.var 0) (.lit (.int 0))) (.bin .sub (.bin .mul (.ix (.var 1) (.lit (.int 1))) (.ix (.var 2) (.lit (.int 2)))) (.bin .mul (.ix (.var 2) (.lit (.int 1))) (.ix (.var 1) (.lit (.int 2))))))) (.cons (.asg (.nm 4) (.bin .mul (.ix (.var 0) (.lit (.int 1))) (.bin .sub (.bin .mul (.ix (.var 1) (.lit (.int 0))) (.ix (.var 2) (.lit (.int 2)))) (.bin .mul (.ix (.var 2) (.lit (.int 0))) (.ix (.var 1) (.lit (.int 2))))))) (.cons (.ret (.bin .add (.bin .sub (.var 3) (.var 4)) (.bin .mul (.ix (.var 0) (.lit (.int 2))) (.bin .sub (.bin .mul (.ix (.var 1) (.lit (.int 0))) (.ix (.var 2) (.lit (.int 1)))) (.bin .mul (.ix (.var 2) (.lit (.int 0))) (.ix (.var 1) (.lit (.int 1)))))))) .nil)))
def en5 : Ent := { name := "doubled", np := 3, N := ["a", "b", "c", "first", "second"], io := false, ir := ir5, params := L2.defArgs (top 15), body := L2.defBody (top 15), scope := L2.defScope (top 15) }
/-- 6 -/
def ir6 : Sm := (.cons (.ret (.call 2 none (.cons (.call 5 none (.cons (.var 0) (.cons (.var 1) (.cons (.var 2) .nil)))) .nil))) .nil)
def en6 : Ent := { name := "turn_of", np := 3, N := ["a", "b", "c"], io := false, ir := ir6, params := L2.defArgs (top 16), body := L2.defBody (top 16), scope := L2.defScope (top 16) }
/-- 7 -/
def ir7 : Sm := (.cons (.ret (.lc [3] (.nm 3) (.rng1 (.prim .len (.cons (.var 0) .nil))) (.cmp .gt (.call 6 none (.cons (.var 1) (.cons (.var 2) (.cons (.ix (.var 0) (.var 3)) .nil)))) (.lit (.int 0))) (.var 3))) .nil)
def en7 : Ent := { name := "lefts", np := 3, N := ["points", "a", "b", "k"], io := false, ir := ir7, params := L2.defArgs (top 18), body := L2.defBody (top 18), scope := L2.defScope (top 18) }
/-- 8 -/
def ir8 : Sm := (.cons (.asg (.nm 3) (.lc [4] (.nm 4) (.items (.var 0)) (.cmp .nmem (.var 4) (.tup (.cons (.var 1) (.cons (.var 2) .nil)))) (.var 4))) (.cons (.ret (.cmp .eq (.bin .mul (.lit (.int 2)) (.prim .len (.cons (.call 7 none (.cons (.var 3) (.cons (.var 1) (.cons (.var 2) .nil)))) .nil))) (.prim .len (.cons (.var 3) .nil)))) .nil))
def en8 : Ent := { name := "is_halved", np := 3, N := ["points", "a", "b", "others", "p"], io := false, ir := ir8, params := L2.defArgs (top 19), body := L2.defBody (top 19), scope := L2.defScope (top 19) }
/-- 9 -/
def ir9 : Sm := (.cons (.exp (.call 4 none (.cons (.var 0) .nil))) (.cons (.exp (.call 4 none (.cons (.var 1) .nil))) (.cons (.ite (.or (.cmp .eq (.bin .mod (.prim .len (.cons (.var 0) .nil)) (.lit (.int 2))) (.lit (.int 0))) (.or (.cmp .eq (.bin .mod (.prim .len (.cons (.var 1) .nil)) (.lit (.int 2))) (.lit (.int 0))) (.cmp .ne (.lc [8] (.nm 8) (.items (.var 0)) (.cmp .mem (.var 8) (.var 1)) (.var 8)) (.lst .nil)))) (.cons .never .nil) .nil) (.cons (.asg (.nm 2) (.bin .add (.var 0) (.var 1))) (.cons (.for_ (.nm 3) (.rng1 (.prim .len (.cons (.var 2) .nil))) (.cons (.for_ (.nm 4) (.rng1 (.var 3)) (.cons (.for_ (.nm 5) (.rng1 (.var 4)) (.cons (.ite (.cmp .eq (.call 6 none (.cons (.ix (.var 2) (.var 3)) (.cons (.ix (.var 2) (.var 4)) (.cons (.ix (.var 2) (.var 5)) .nil)))) (.lit (.int 0))) (.cons .never .nil) .nil) .nil)) .nil)) .nil)) (.cons (.for_ (.nm 6) (.rng1 (.prim .len (.cons (.var 0) .nil))) (.cons (.for_ (.nm 7) (.rng1 (.prim .len (.cons (.var 1) .nil))) (.cons (.ite (.and (.call 8 none (.cons (.var 0) (.cons (.ix (.var 0) (.var 6)) (.cons (.ix (.var 1) (.var 7)) .nil)))) (.call 8 none (.cons (.var 1) (.cons (.ix (.var 0) (.var 6)) (.cons (.ix (.var 1) (.var 7)) .nil))))) (.cons (.ret (.tup (.cons (.var 6) (.cons (.var 7) .nil)))) .nil) .nil) .nil)) .nil)) (.cons (.ret (.lit .non)) .nil)))))))
def en9 : Ent := { name := "halving_both", np := 2, N := ["red", "blue", "every", "a", "b", "c", "i", "j", "p"], io := false, ir := ir9, params := L2.defArgs (top 20), body := L2.defBody (top 20), scope := L2.defScope (top 20) }
/-- 10 -/
def ir10 : Sm := (.cons (.ite (.cmp .gt (.oix 0 (.lit (.int 3))) (.lit (.int 0))) (.cons (.asg (.nm 2) (.bin .mod (.prim .int (.cons (.oix 0 (.lit (.int 3))) .nil)) (.var 1))) (.cons (.setix 0 (.lit (.int 3)) (.bin .fdiv (.oix 0 (.lit (.int 3))) (.var 1))) (.cons (.ret (.var 2)) .nil))) .nil) (.cons (.setix 0 (.lit (.int 1)) (.bin .add (.oix 0 (.lit (.int 1))) (.lit (.int 1)))) (.cons (.ite (.cmp .gt (.oix 0 (.lit (.int 1))) (.prim .len (.cons (.oix 0 (.lit (.int 0))) .nil))) (.cons (.setix 0 (.lit (.int 2)) (.bin .mod (.prim .int (.cons (.bin .add (.bin .mul (.oix 0 (.lit (.int 2))) (.lit (.int 48271))) (.lit (.int 11))) .nil)) (.lit (.int 2147483647)))) (.cons (.ret (.bin .mod (.prim .int (.cons (.bin .fdiv (.oix 0 (.lit (.int 2))) (.lit (.int 7))) .nil)) (.var 1))) .nil)) .nil) (.cons (.asg (.nm 3) (.ix (.oix 0 (.lit (.int 0))) (.bin .sub (.oix 0 (.lit (.int 1))) (.lit (.int 1))))) (.cons (.setix 0 (.lit (.int 2)) (.bin .mod (.prim .int (.cons (.bin .add (.bin .add (.bin .mul (.oix 0 (.lit (.int 2))) (.lit (.int 48271))) (.var 3)) (.lit (.int 11))) .nil)) (.lit (.int 2147483647)))) (.cons (.ite (.cmp .ge (.var 3) (.bin .pow (.lit (.int 10)) (.lit (.int 18)))) (.cons (.setix 0 (.lit (.int 3)) (.bin .fdiv (.var 3) (.var 1))) .nil) .nil) (.cons (.ret (.bin .mod (.prim .int (.cons (.var 3) .nil)) (.var 1))) .nil)))))))
def en10 : Ent := { name := "_law_taken", np := 2, N := ["_law_row", "_law_many", "_law_found", "_law_cell"], io := true, ir := ir10, params := L2.defArgs (top 22), body := L2.defBody (top 22), scope := L2.defScope (top 22) }
/-- 11 -/
def ir11 : Sm := (.cons (.ret (.ix (.var 1) (.call 10 (some 0) (.cons (.prim .len (.cons (.var 1) .nil)) .nil)))) .nil)
def en11 : Ent := { name := "_law_pick", np := 2, N := ["_law_row", "_law_things"], io := true, ir := ir11, params := L2.defArgs (top 23), body := L2.defBody (top 23), scope := L2.defScope (top 23) }
/-- 12 -/
def ir12 : Sm := (.cons (.ret (.bin .sub (.call 10 (some 0) (.cons (.bin .add (.bin .mul (.lit (.int 2)) (.var 1)) (.lit (.int 1))) .nil)) (.var 1))) .nil)
def en12 : Ent := { name := "_law_signed", np := 2, N := ["_law_row", "_law_most"], io := true, ir := ir12, params := L2.defArgs (top 24), body := L2.defBody (top 24), scope := L2.defScope (top 24) }
/-- 13 -/
def ir13 : Sm := (.cons (.ret (.tup (.cons (.call 12 (some 0) (.cons (.var 1) .nil)) (.cons (.call 12 (some 0) (.cons (.var 1) .nil)) (.cons (.lit (.int 1)) .nil))))) .nil)
def en13 : Ent := { name := "_law_grid", np := 2, N := ["_law_row", "_law_size"], io := true, ir := ir13, params := L2.defArgs (top 25), body := L2.defBody (top 25), scope := L2.defScope (top 25) }
/-- 14 -/
def ir14 : Sm := (.cons (.ret (.ite (.cmp .gt (.var 0) (.lit (.int 0))) (.lit (.int 1)) (.ite (.cmp .lt (.var 0) (.lit (.int 0))) (.neg (.lit (.int 1))) (.lit (.int 0))))) .nil)
def en14 : Ent := { name := "_law_sign", np := 1, N := ["_law_number"], io := false, ir := ir14, params := L2.defArgs (top 26), body := L2.defBody (top 26), scope := L2.defScope (top 26) }
/-- 15 -/
def ir15 : Sm := (.cons (.par2 3 4 (.bin .sub (.bin .mul (.ix (.var 1) (.lit (.int 0))) (.ix (.var 0) (.lit (.int 2)))) (.bin .mul (.ix (.var 0) (.lit (.int 0))) (.ix (.var 1) (.lit (.int 2))))) (.bin .sub (.bin .mul (.ix (.var 1) (.lit (.int 1))) (.ix (.var 0) (.lit (.int 2)))) (.bin .mul (.ix (.var 0) (.lit (.int 1))) (.ix (.var 1) (.lit (.int 2)))))) (.cons (.par2 5 6 (.bin .sub (.bin .mul (.ix (.var 2) (.lit (.int 0))) (.ix (.var 0) (.lit (.int 2)))) (.bin .mul (.ix (.var 0) (.lit (.int 0))) (.ix (.var 2) (.lit (.int 2))))) (.bin .sub (.bin .mul (.ix (.var 2) (.lit (.int 1))) (.ix (.var 0) (.lit (.int 2)))) (.bin .mul (.ix (.var 0) (.lit (.int 1))) (.ix (.var 2) (.lit (.int 2)))))) (.cons (.ret (.bin .fdiv (.bin .sub (.bin .mul (.var 3) (.var 6)) (.bin .mul (.var 5) (.var 4))) (.ix (.var 0) (.lit (.int 2))))) .nil)))
def en15 : Ent := { name := "_law_doubled", np := 3, N := ["_law_a", "_law_b", "_law_c", "_law_x", "_law_y", "_law_p", "_law_q"], io := false, ir := ir15, params := L2.defArgs (top 27), body := L2.defBody (top 27), scope := L2.defScope (top 27) }
/-- 16 -/
def ir16 : Sm := (.cons (.ret (.call 14 none (.cons (.call 15 none (.cons (.var 0) (.cons (.var 1) (.cons (.var 2) .nil)))) .nil))) .nil)
def en16 : Ent := { name := "_law_turn", np := 3, N := ["_law_a", "_law_b", "_law_c"], io := false, ir := ir16, params := L2.defArgs (top 28), body := L2.defBody (top 28), scope := L2.defScope (top 28) }
/-- 17 -/
def ir17 : Sm := (.cons (.parN [3, 4, 5] [true, false, false] (.cons (.lst .nil) (.cons (.bin .add (.var 1) (.call 10 (some 0) (.cons (.bin .add (.bin .sub (.var 2) (.var 1)) (.lit (.int 1))) .nil))) (.cons (.call 11 (some 0) (.cons (.lst (.cons (.lit (.int 4)) (.cons (.lit (.int 6)) (.cons (.lit (.int 9)) .nil)))) .nil)) .nil)))) (.cons (.for_ (.nm 6) (.rng1 (.bin .mul (.lit (.int 3)) (.var 4))) (.cons (.asg (.nm 7) (.call 13 (some 0) (.cons (.var 5) .nil))) (.cons (.asg (.nm 8) (.lend 3 (.cmp .mem (.var 7) (.var 3)))) (.cons (.for_ (.nm 9) (.rng1 (.olen 3)) (.cons (.asg (.nm 8) (.or (.var 8) (.lend 3 (.cmp .ne (.lc [10] (.nm 10) (.items (.sl (.var 3) (.lit .non) (.var 9))) (.cmp .eq (.call 16 none (.cons (.var 10) (.cons (.ix (.var 3) (.var 9)) (.cons (.var 7) .nil)))) (.lit (.int 0))) (.var 10)) (.lst .nil))))) .nil)) (.cons (.ite (.and (.not (.var 8)) (.cmp .lt (.olen 3) (.var 4))) (.cons (.app 3 (.var 7)) .nil) .nil) .nil))))) (.cons (.for_ (.nm 6) (.rng1 (.lit (.int 40))) (.cons (.asg (.nm 7) (.tup (.cons (.var 6) (.cons (.bin .add (.bin .mul (.var 6) (.var 6)) (.lit (.int 11))) (.cons (.lit (.int 1)) .nil))))) (.cons (.asg (.nm 8) (.lend 3 (.cmp .mem (.var 7) (.var 3)))) (.cons (.for_ (.nm 9) (.rng1 (.olen 3)) (.cons (.asg (.nm 8) (.or (.var 8) (.lend 3 (.cmp .ne (.lc [10] (.nm 10) (.items (.sl (.var 3) (.lit .non) (.var 9))) (.cmp .eq (.call 16 none (.cons (.var 10) (.cons (.ix (.var 3) (.var 9)) (.cons (.var 7) .nil)))) (.lit (.int 0))) (.var 10)) (.lst .nil))))) .nil)) (.cons (.ite (.and (.not (.var 8)) (.cmp .lt (.olen 3) (.var 4))) (.cons (.app 3 (.var 7)) .nil) .nil) .nil))))) (.cons (.ret (.prim .tuple (.cons (.var 3) .nil))) .nil))))
def en17 : Ent := { name := "_law_general", np := 3, N := ["_law_row", "_law_least", "_law_most", "_law_found", "_law_many", "_law_size", "_law_turn_here", "_law_p", "_law_bad", "_law_i", "_law_q"], io := true, ir := ir17, params := L2.defArgs (top 29), body := L2.defBody (top 29), scope := L2.defScope (top 29) }
/-- 18 -/
def ir18 : Sm := (.cons (.par2 0 1 (.prim .abs (.cons (.var 0) .nil)) (.prim .abs (.cons (.var 1) .nil))) (.cons (.whl (.cmp .ne (.var 1) (.lit (.int 0))) (.cons (.par2 0 1 (.var 1) (.bin .mod (.prim .int (.cons (.var 0) .nil)) (.var 1))) .nil)) (.cons (.ret (.var 0)) .nil)))
def en18 : Ent := { name := "_law_gcd", np := 2, N := ["_law_one", "_law_other"], io := false, ir := ir18, params := L2.defArgs (top 30), body := L2.defBody (top 30), scope := L2.defScope (top 30) }
/-- 19 -/
def ir19 : Sm := (.cons (.asg (.nm 3) (.call 18 none (.cons (.call 18 none (.cons (.var 0) (.cons (.var 1) .nil))) (.cons (.var 2) .nil)))) (.cons (.asg (.nm 3) (.ite (.cmp .lt (.var 2) (.lit (.int 0))) (.bin .sub (.lit (.int 0)) (.var 3)) (.var 3))) (.cons (.ret (.tup (.cons (.bin .fdiv (.var 0) (.var 3)) (.cons (.bin .fdiv (.var 1) (.var 3)) (.cons (.bin .fdiv (.var 2) (.var 3)) .nil))))) .nil)))
def en19 : Ent := { name := "_law_lowest", np := 3, N := ["_law_x", "_law_y", "_law_w", "_law_common"], io := false, ir := ir19, params := L2.defArgs (top 31), body := L2.defBody (top 31), scope := L2.defScope (top 31) }
/-- 20 -/
def ir20 : Sm := (.cons (.asg (.nm 2) (.call 10 (some 0) (.cons (.lit (.int 6)) .nil))) (.cons (.ite (.cmp .gt (.var 2) (.lit (.int 1))) (.cons (.ret (.var 1)) .nil) .nil) (.cons (.parN [3, 4] [false, false] (.cons (.ite (.cmp .eq (.var 2) (.lit (.int 0))) (.call 11 (some 0) (.cons (.lst (.cons (.lit (.int 2)) (.cons (.lit (.int 3)) (.cons (.lit (.int 7)) .nil)))) .nil)) (.lit (.int 1))) (.cons (.call 11 (some 0) (.cons (.lst (.cons (.lit (.int 1)) (.cons (.lit (.int 2)) (.cons (.lit (.int 100003)) .nil)))) .nil)) .nil))) (.cons (.parN [5, 6] [false, false] (.cons (.call 11 (some 0) (.cons (.lst (.cons (.lit (.int 0)) (.cons (.neg (.lit (.int 3))) (.cons (.bin .add (.bin .pow (.lit (.int 10)) (.lit (.int 9))) (.lit (.int 7))) .nil)))) .nil)) (.cons (.call 11 (some 0) (.cons (.lst (.cons (.lit (.int 0)) (.cons (.lit (.int 1)) (.cons (.bin .sub (.neg (.bin .pow (.lit (.int 10)) (.lit (.int 9)))) (.lit (.int 9))) .nil)))) .nil)) .nil))) (.cons (.ret (.prim .tuple (.cons (.lc [7] (.nm 7) (.items (.var 1)) (.lit (.bl true)) (.call 19 none (.cons (.bin .add (.bin .mul (.ix (.var 7) (.lit (.int 0))) (.var 4)) (.bin .mul (.var 5) (.ix (.var 7) (.lit (.int 2))))) (.cons (.bin .add (.bin .mul (.ix (.var 7) (.lit (.int 1))) (.var 4)) (.bin .mul (.var 6) (.ix (.var 7) (.lit (.int 2))))) (.cons (.bin .mul (.ix (.var 7) (.lit (.int 2))) (.var 3)) .nil))))) .nil))) .nil)))))
def en20 : Ent := { name := "_law_moved", np := 2, N := ["_law_row", "_law_points", "_law_way", "_law_below", "_law_factor", "_law_x", "_law_y", "_law_p"], io := true, ir := ir20, params := L2.defArgs (top 32), body := L2.defBody (top 32), scope := L2.defScope (top 32) }
/-- 21 -/
def ir21 : Sm := (.cons (.own 1 (.lst (.cons (.var 0) (.cons (.lit (.int 0)) (.cons (.lit (.int 3227)) (.cons (.lit (.int 0)) .nil)))))) (.cons (.asg (.nm 2) (.call 20 (some 1) (.cons (.call 17 (some 1) (.cons (.lit (.int 8)) (.cons (.lit (.int 8)) .nil))) .nil))) (.cons (.asg (.nm 3) (.call 11 (some 1) (.cons (.lst (.cons (.lit (.int 1)) (.cons (.lit (.int 3)) (.cons (.lit (.int 5)) .nil)))) .nil))) (.cons (.par2 4 5 (.sl (.var 2) (.lit .non) (.var 3)) (.sl (.var 2) (.var 3) (.bin .add (.var 3) (.call 11 (some 1) (.cons (.lst (.cons (.lit (.int 1)) (.cons (.lit (.int 3)) .nil))) .nil))))) (.cons (.asg (.nm 6) (.call 9 none (.cons (.var 4) (.cons (.var 5) .nil)))) (.cons (.ite (.or (.not (.isi .isTup (.var 6))) (.cmp .ne (.prim .len (.cons (.var 6) .nil)) (.lit (.int 2)))) (.cons (.ret (.lit (.bl false))) .nil) .nil) (.cons (.ite (.cmp .ne (.lc [11] (.nm 11) (.items (.var 6)) (.or (.not (.isi .isInt (.var 11))) (.isi .isBool (.var 11))) (.var 11)) (.lst .nil)) (.cons (.ret (.lit (.bl false))) .nil) .nil) (.cons (.ite (.or (.not (.cmp2 .le .lt (.lit (.int 0)) (.ix (.var 6) (.lit (.int 0))) (.prim .len (.cons (.var 4) .nil)))) (.not (.cmp2 .le .lt (.lit (.int 0)) (.ix (.var 6) (.lit (.int 1))) (.prim .len (.cons (.var 5) .nil))))) (.cons (.ret (.lit (.bl false))) .nil) .nil) (.cons (.parN [7, 8] [false, false] (.cons (.ix (.var 4) (.ix (.var 6) (.lit (.int 0)))) (.cons (.ix (.var 5) (.ix (.var 6) (.lit (.int 1)))) .nil))) (.cons (.for_ (.nm 9) (.items (.lst (.cons (.var 4) (.cons (.var 5) .nil)))) (.cons (.asg (.nm 10) (.lc [12] (.nm 12) (.items (.var 9)) (.and (.cmp .ne (.var 12) (.var 7)) (.cmp .ne (.var 12) (.var 8))) (.call 16 none (.cons (.var 7) (.cons (.var 8) (.cons (.var 12) .nil)))))) (.cons (.ite (.cmp .ne (.prim .sum (.cons (.var 10) .nil)) (.lit (.int 0))) (.cons (.ret (.lit (.bl false))) .nil) .nil) .nil))) (.cons (.ret (.lit (.bl true))) .nil)))))))))))
def en21 : Ent := { name := "law", np := 1, N := ["_law_script", "_law_row", "_law_points", "_law_many", "_law_red", "_law_blue", "_law_found", "_law_a", "_law_b", "_law_some", "_law_sides", "_law_k", "_law_p"], io := false, ir := ir21, params := L2.defArgs (top 33), body := L2.defBody (top 33), scope := L2.defScope (top 33) }
def ents : List Ent := [en0, en1, en2, en3, en4, en5, en6, en7, en8, en9, en10, en11, en12, en13, en14, en15, en16, en17, en18, en19, en20, en21]
def gls : List Str := ["LARGEST", "MOST_POINTS"]
def glv : List Int := [1000000000000, 40]
def glob (g : Nat) : D := .int (glv.getD g 0)
end Lw
/-! the head (printed) -/
namespace Lw
open PySem PySem.Spec PyProof.Rows L2 Ev
def fn : List He.DefD := ents.map dOf
def fa : List He.Fa := faOf ents gls glv
abbrev Rw : PySem.W.OpenRow := PySem.W.OpenLaw.row PySem.Challenge.rw_meshcore_k27_whole_halving_both
abbrev hk : PySem.W.Hook := He.hookD 4 fa fn
def ob (s : PySem.W.SharedT) : He.AlD := He.obsDG 4 fa fn (HandSHeadRun.getT s)
theorem ob_eq (s : PySem.W.SharedT) : ob s = hk.obs s.abs := He.obsDG_eq (HandSHeadRun.getT_eq s)
def loose : List Str := ((["is_in", "gcd", "sign", "is_point", "need_points", "doubled", "turn_of", "lefts", "is_halved", "halving_both", "_law_taken", "_law_pick", "_law_signed", "_law_grid", "_law_sign", "_law_doubled", "_law_turn", "_law_general", "_law_gcd", "_law_lowest", "_law_moved", "MeshError", "BadPoints", "NotGeneral", "BadPair", "LARGEST", "MOST_POINTS"] : List String).map Str.ofString)
theorem run (w : World) : HandSHeadRun.RunEq Rw (PySem.W.view Rw.prog [33]) hk ob 4000 loose w := by
  intro os
  kernel_rfl
theorem tbl_ok : ents.all (entB (ents.map Ent.fi) gls) = true := by decide +kernel
theorem bd0 {K : PySem.W.Frag} {f : Addr} {fd : FuncData} (F : FunD K en0.name en0.name en0.params en0.body en0.scope [] [] f fd) : L2.Binds K fd (en0.N.take en0.np) [] := F.bindsN fun _ _ _ _ _ _ us hl => match us, hl with | [_, _, _], _ => rfl
theorem bd1 {K : PySem.W.Frag} {f : Addr} {fd : FuncData} (F : FunD K en1.name en1.name en1.params en1.body en1.scope [] [] f fd) : L2.Binds K fd (en1.N.take en1.np) [] := F.bindsN fun _ _ _ _ _ _ us hl => match us, hl with | [_, _], _ => rfl
theorem bd2 {K : PySem.W.Frag} {f : Addr} {fd : FuncData} (F : FunD K en2.name en2.name en2.params en2.body en2.scope [] [] f fd) : L2.Binds K fd (en2.N.take en2.np) [] := F.bindsN fun _ _ _ _ _ _ us hl => match us, hl with | [_], _ => rfl
theorem bd3 {K : PySem.W.Frag} {f : Addr} {fd : FuncData} (F : FunD K en3.name en3.name en3.params en3.body en3.scope [] [] f fd) : L2.Binds K fd (en3.N.take en3.np) [] := F.bindsN fun _ _ _ _ _ _ us hl => match us, hl with | [_], _ => rfl
theorem bd4 {K : PySem.W.Frag} {f : Addr} {fd : FuncData} (F : FunD K en4.name en4.name en4.params en4.body en4.scope [] [] f fd) : L2.Binds K fd (en4.N.take en4.np) [] := F.bindsN fun _ _ _ _ _ _ us hl => match us, hl with | [_], _ => rfl
theorem bd5 {K : PySem.W.Frag} {f : Addr} {fd : FuncData} (F : FunD K en5.name en5.name en5.params en5.body en5.scope [] [] f fd) : L2.Binds K fd (en5.N.take en5.np) [] := F.bindsN fun _ _ _ _ _ _ us hl => match us, hl with | [_, _, _], _ => rfl
theorem bd6 {K : PySem.W.Frag} {f : Addr} {fd : FuncData} (F : FunD K en6.name en6.name en6.params en6.body en6.scope [] [] f fd) : L2.Binds K fd (en6.N.take en6.np) [] := F.bindsN fun _ _ _ _ _ _ us hl => match us, hl with | [_, _, _], _ => rfl
theorem bd7 {K : PySem.W.Frag} {f : Addr} {fd : FuncData} (F : FunD K en7.name en7.name en7.params en7.body en7.scope [] [] f fd) : L2.Binds K fd (en7.N.take en7.np) [] := F.bindsN fun _ _ _ _ _ _ us hl => match us, hl with | [_, _, _], _ => rfl
theorem bd8 {K : PySem.W.Frag} {f : Addr} {fd : FuncData} (F : FunD K en8.name en8.name en8.params en8.body en8.scope [] [] f fd) : L2.Binds K fd (en8.N.take en8.np) [] := F.bindsN fun _ _ _ _ _ _ us hl => match us, hl with | [_, _, _], _ => rfl
theorem bd9 {K : PySem.W.Frag} {f : Addr} {fd : FuncData} (F : FunD K en9.name en9.name en9.params en9.body en9.scope [] [] f fd) : L2.Binds K fd (en9.N.take en9.np) [] := F.bindsN fun _ _ _ _ _ _ us hl => match us, hl with | [_, _], _ => rfl
theorem bd10 {K : PySem.W.Frag} {f : Addr} {fd : FuncData} (F : FunD K en10.name en10.name en10.params en10.body en10.scope [] [] f fd) : L2.Binds K fd (en10.N.take en10.np) [] := F.bindsN fun _ _ _ _ _ _ us hl => match us, hl with | [_, _], _ => rfl
theorem bd11 {K : PySem.W.Frag} {f : Addr} {fd : FuncData} (F : FunD K en11.name en11.name en11.params en11.body en11.scope [] [] f fd) : L2.Binds K fd (en11.N.take en11.np) [] := F.bindsN fun _ _ _ _ _ _ us hl => match us, hl with | [_, _], _ => rfl
theorem bd12 {K : PySem.W.Frag} {f : Addr} {fd : FuncData} (F : FunD K en12.name en12.name en12.params en12.body en12.scope [] [] f fd) : L2.Binds K fd (en12.N.take en12.np) [] := F.bindsN fun _ _ _ _ _ _ us hl => match us, hl with | [_, _], _ => rfl
theorem bd13 {K : PySem.W.Frag} {f : Addr} {fd : FuncData} (F : FunD K en13.name en13.name en13.params en13.body en13.scope [] [] f fd) : L2.Binds K fd (en13.N.take en13.np) [] := F.bindsN fun _ _ _ _ _ _ us hl => match us, hl with | [_, _], _ => rfl
theorem bd14 {K : PySem.W.Frag} {f : Addr} {fd : FuncData} (F : FunD K en14.name en14.name en14.params en14.body en14.scope [] [] f fd) : L2.Binds K fd (en14.N.take en14.np) [] := F.bindsN fun _ _ _ _ _ _ us hl => match us, hl with | [_], _ => rfl
theorem bd15 {K : PySem.W.Frag} {f : Addr} {fd : FuncData} (F : FunD K en15.name en15.name en15.params en15.body en15.scope [] [] f fd) : L2.Binds K fd (en15.N.take en15.np) [] := F.bindsN fun _ _ _ _ _ _ us hl => match us, hl with | [_, _, _], _ => rfl
theorem bd16 {K : PySem.W.Frag} {f : Addr} {fd : FuncData} (F : FunD K en16.name en16.name en16.params en16.body en16.scope [] [] f fd) : L2.Binds K fd (en16.N.take en16.np) [] := F.bindsN fun _ _ _ _ _ _ us hl => match us, hl with | [_, _, _], _ => rfl
theorem bd17 {K : PySem.W.Frag} {f : Addr} {fd : FuncData} (F : FunD K en17.name en17.name en17.params en17.body en17.scope [] [] f fd) : L2.Binds K fd (en17.N.take en17.np) [] := F.bindsN fun _ _ _ _ _ _ us hl => match us, hl with | [_, _, _], _ => rfl
theorem bd18 {K : PySem.W.Frag} {f : Addr} {fd : FuncData} (F : FunD K en18.name en18.name en18.params en18.body en18.scope [] [] f fd) : L2.Binds K fd (en18.N.take en18.np) [] := F.bindsN fun _ _ _ _ _ _ us hl => match us, hl with | [_, _], _ => rfl
theorem bd19 {K : PySem.W.Frag} {f : Addr} {fd : FuncData} (F : FunD K en19.name en19.name en19.params en19.body en19.scope [] [] f fd) : L2.Binds K fd (en19.N.take en19.np) [] := F.bindsN fun _ _ _ _ _ _ us hl => match us, hl with | [_, _, _], _ => rfl
theorem bd20 {K : PySem.W.Frag} {f : Addr} {fd : FuncData} (F : FunD K en20.name en20.name en20.params en20.body en20.scope [] [] f fd) : L2.Binds K fd (en20.N.take en20.np) [] := F.bindsN fun _ _ _ _ _ _ us hl => match us, hl with | [_, _], _ => rfl
theorem bd21 {K : PySem.W.Frag} {f : Addr} {fd : FuncData} (F : FunD K en21.name en21.name en21.params en21.body en21.scope [] [] f fd) : L2.Binds K fd (en21.N.take en21.np) [] := F.bindsN fun _ _ _ _ _ _ us hl => match us, hl with | [_], _ => rfl
theorem bds : ∀ (i : Nat) (e : Ent), ents[i]? = some e → ∀ {K : PySem.W.Frag} {f : Addr} {fd : FuncData}, FunD K e.name e.name e.params e.body e.scope [] [] f fd → L2.Binds K fd (e.N.take e.np) []
  | 0, _, h => by cases h; exact bd0
  | 1, _, h => by cases h; exact bd1
  | 2, _, h => by cases h; exact bd2
  | 3, _, h => by cases h; exact bd3
  | 4, _, h => by cases h; exact bd4
  | 5, _, h => by cases h; exact bd5
  | 6, _, h => by cases h; exact bd6
  | 7, _, h => by cases h; exact bd7
  | 8, _, h => by cases h; exact bd8
  | 9, _, h => by cases h; exact bd9
  | 10, _, h => by cases h; exact bd10
  | 11, _, h => by cases h; exact bd11
  | 12, _, h => by cases h; exact bd12
  | 13, _, h => by cases h; exact bd13
  | 14, _, h => by cases h; exact bd14
  | 15, _, h => by cases h; exact bd15
  | 16, _, h => by cases h; exact bd16
  | 17, _, h => by cases h; exact bd17
  | 18, _, h => by cases h; exact bd18
  | 19, _, h => by cases h; exact bd19
  | 20, _, h => by cases h; exact bd20
  | 21, _, h => by cases h; exact bd21
  | i + 22, _, h => by cases h
theorem bdL {K : PySem.W.Frag} {f : Addr} {fd : FuncData} (F : FunD K en21.name en21.name en21.params en21.body en21.scope [] [] f fd) (s : Shared) (v : Value) : BindsTo s fd ⟨[v], []⟩ [("_law_script", v)] :=
  FunD.bindsA (ps := ["_law_script"]) F (fun _ _ _ _ _ _ us hl => match us, hl with | [_], _ => rfl) s [v] rfl
/-- the law, of the plain table -/
def Plain (depth fuel : Nat) : Prop := ∀ ns : List Int, ns.length ≤ 63 → ∃ cs, callN (globI glv) fuel (ents.map Ent.fn) depth 21 [.val (.fz (ns.map D.int))] = .ok (.bl true) cs
end Lw
section
open PySem PySem.W PySem.Calls PyProof.Rows
theorem Lw.holds {depth fuel : Nat} (hd : L2.Room depth callerA) (plain : Lw.Plain depth fuel) : PySem.Challenge.rw_meshcore_k27_whole_halving_both.Holds := by
  w_on; o_law
  refine HandSHeadRun.head_any (r := OpenLaw.row PySem.Challenge.rw_meshcore_k27_whole_halving_both) (q := view (OpenLaw.row PySem.Challenge.rw_meshcore_k27_whole_halving_both).prog [33]) (H := Lw.hk) (ob := Lw.ob) (M := 4000) (loose := Lw.loose) (d := HandSHeadRun.topDef (OpenLaw.row PySem.Challenge.rw_meshcore_k27_whole_halving_both).prog 33) (kwd := []) Lw.ob_eq
    (by kernel_rfl) (fun s => by kernel_rfl) Lw.run (by kernel_rfl) (by kernel_rfl) (by kernel_rfl) (by rfl) (by first | assumption | decide +kernel) (by decide +kernel) ⟨rfl, rfl, rfl, rfl, rfl, by decide +kernel⟩ ?hw ?hc
  case hw => w_witness2
  case hc =>
    refine Ev.walkW (l := PySem.Challenge.rw_meshcore_k27_whole_halving_both) (m := 63) (kk := depth) (x := "_law_script") (CX := L2.CX (PySem.Challenge.rw_meshcore_k27_whole_halving_both).prog) rfl (by decide) (by kernel_rfl) hd ?F (fun _ _ _ _ _ z => Ev.cx_no z)
    intro w mg fa h Y G hmg0
    obtain ⟨K, KX, c⟩ := Y
    have hmg : mg Lw.en21.name = some (.ref fa) := by
      have e : (HandSHeadRun.topDef (OpenLaw.row PySem.Challenge.rw_meshcore_k27_whole_halving_both).prog 33).name = Lw.en21.name := by kernel_rfl
      rw [← e]
      exact hmg0
    obtain ⟨fd, hb, hF⟩ := Ev.facts_of (P := (PySem.Challenge.rw_meshcore_k27_whole_halving_both).prog) (w := w) (lk := 21) (enL := Lw.en21) (x := "_law_script") KX G hmg c depth fuel rfl rfl Lw.tbl_ok rfl (fun i e he => Lw.bds i e he) Lw.bdL
    refine ⟨K, fd, _, KX, hb, fun H a ns hl hO hS => ?_, hF⟩
    obtain ⟨cs, e⟩ := plain ns hl
    exact Ev.law_sp hS hO e
end
set_option Elab.async false
set_option linter.all false
set_option maxRecDepth 100000
set_option maxHeartbeats 4000000
set_option autoImplicit false
/-! Pl0: plain rules about trees. -/
namespace Ev
/-! ### sizes -/
def L (n : Nat) (i : Int) : Prop := i.natAbs < 2 ^ (64 * 2 ^ n)
theorem two_sq (n : Nat) : 2 ^ (64 * 2 ^ (n + 1)) = 2 ^ (64 * 2 ^ n) * 2 ^ (64 * 2 ^ n) := by
  rw [← Nat.pow_add]
  congr 1
  rw [Nat.pow_succ]
  omega
theorem two_le (n : Nat) : 4 ≤ 2 ^ (64 * 2 ^ n) := by
  have h : 2 ≤ 64 * 2 ^ n := by
    have := Nat.one_le_two_pow (n := n)
    omega
  calc 4 = 2 ^ 2 := rfl
    _ ≤ _ := Nat.pow_le_pow_right (by decide) h
theorem L.mul {n : Nat} {i j : Int} (h : L n i) (k : L n j) : L (n + 1) (i * j) := by
  unfold L at *
  rw [Int.natAbs_mul, two_sq]
  exact Nat.mul_lt_mul'' h k
theorem L.up {n : Nat} {i : Int} (h : L n i) : L (n + 1) i := by
  unfold L at *
  rw [two_sq]
  have := two_le n
  exact Nat.lt_of_lt_of_le h (Nat.le_mul_of_pos_right _ (by omega))
theorem L.sum {n : Nat} {i j k : Int} (h : L n i) (g : L n j) (e : k.natAbs ≤ i.natAbs + j.natAbs) : L (n + 1) k := by
  unfold L at *
  rw [two_sq]
  have := two_le n
  have : 2 ^ (64 * 2 ^ n) * 4 ≤ 2 ^ (64 * 2 ^ n) * 2 ^ (64 * 2 ^ n) := Nat.mul_le_mul_left _ this
  omega
theorem L.add {n : Nat} {i j : Int} (h : L n i) (k : L n j) : L (n + 1) (i + j) := h.sum k (by omega)
theorem L.sub {n : Nat} {i j : Int} (h : L n i) (k : L n j) : L (n + 1) (i - j) := h.sum k (by omega)
theorem L.neg {n : Nat} {i : Int} (h : L n i) : L n (-i) := by
  unfold L at *
  rwa [Int.natAbs_neg]
/-- below 2 ^ 64 -/
def S64 (i : Int) : Prop := ∀ n, L n i
theorem S64.of {i : Int} (h : i.natAbs < 2 ^ 64) : S64 i := fun n => by
  unfold L
  refine Nat.lt_of_lt_of_le h (Nat.pow_le_pow_right (by decide) ?_)
  have := Nat.one_le_two_pow (n := n)
  omega
theorem L.lit {n : Nat} (k : Nat) (h : k < 2 ^ 64) : L n (k : Int) := S64.of (by simpa using h) n
theorem mulOk_L {i j : Int} (h : L 12 i) (k : L 12 j) : mulOk i j = true := by
  have e : ∀ {i : Int}, L 12 i → i.natAbs.log2 < 64 * 2 ^ 12 := fun {i} h => by
    by_cases z : i.natAbs = 0
    · rw [z]; decide
    · exact (Nat.log2_lt z).mpr h
  have a := e h
  have b := e k
  unfold mulOk
  exact decide_eq_true (by omega)
theorem mul_L {i j : Int} (h : L 12 i) (k : L 12 j) : binop .mul (.int i) (.int j) = some (.int (i * j)) := by
  show (if mulOk i j = true then some (D.int (i * j)) else none) = _
  rw [if_pos (mulOk_L h k)]
theorem fdiv_L {i j : Int} (h : j ≠ 0) (k : L 7 j) : binop .fdiv (.int i) (.int j) = some (.int (i.fdiv j)) := by
  have e : j.natAbs.log2 < 64 * 2 ^ 7 := (Nat.log2_lt (by omega)).mpr k
  show (if j = 0 then none else if j.natAbs.log2 < 9000 then some (D.int (i.fdiv j)) else none) = _
  rw [if_neg h, if_pos (by omega)]
theorem fmod_L {i j : Int} (h : j ≠ 0) : binop .mod (.int i) (.int j) = some (.int (i.fmod j)) := by
  show (if j = 0 then none else some (D.int (i.fmod j))) = _
  rw [if_neg h]
theorem add_L {i j : Int} : binop .add (.int i) (.int j) = some (.int (i + j)) := rfl
theorem sub_L {i j : Int} : binop .sub (.int i) (.int j) = some (.int (i - j)) := rfl
/-! ### built-ins on values known in form -/
theorem c_lt {i j : Int} : cmpop .lt (.int i) (.int j) = some (decide (i < j)) := rfl
theorem c_le {i j : Int} : cmpop .le (.int i) (.int j) = some (decide (i ≤ j)) := rfl
theorem c_gt {i j : Int} : cmpop .gt (.int i) (.int j) = some (decide (j < i)) := rfl
theorem c_ge {i j : Int} : cmpop .ge (.int i) (.int j) = some (decide (j ≤ i)) := rfl
theorem c_eq {i j : Int} : cmpop .eq (.int i) (.int j) = some (decide (i = j)) := rfl
theorem c_ne {i j : Int} : cmpop .ne (.int i) (.int j) = some (!decide (i = j)) := rfl
theorem p_int {i : Int} : prim .int [.int i] = some (.int i) := rfl
theorem p_abs {i : Int} : prim .abs [.int i] = some (.int (if i < 0 then -i else i)) := rfl
theorem x_fz {xs : List D} {i : Int} : ixop (.fz xs) (.int i) = at_ xs i := rfl
theorem x_lst {xs : List D} {i : Int} : ixop (.lst xs) (.int i) = at_ xs i := rfl
theorem x_tup {xs : List D} {i : Int} : ixop (.tup xs) (.int i) = at_ xs i := rfl
theorem p_isInt {i : Int} : prim .isInt [.int i] = some (.bl true) := rfl
theorem p_isIntB {b : Bool} : prim .isInt [.bl b] = some (.bl true) := rfl
theorem p_isBool {i : Int} : prim .isBool [.int i] = some (.bl false) := rfl
theorem p_isBoolB {b : Bool} : prim .isBool [.bl b] = some (.bl true) := rfl
theorem p_isTup {xs : List D} : prim .isTup [.tup xs] = some (.bl true) := rfl
theorem p_isLst {xs : List D} : prim .isLst [.lst xs] = some (.bl true) := rfl
theorem p_isSeqT {xs : List D} : prim .isSeq [.tup xs] = some (.bl true) := rfl
theorem p_isSeqL {xs : List D} : prim .isSeq [.lst xs] = some (.bl true) := rfl
theorem p_isSeqI {i : Int} : prim .isSeq [.int i] = some (.bl false) := rfl
theorem p_isSeqB {b : Bool} : prim .isSeq [.bl b] = some (.bl false) := rfl
theorem p_isStrI {i : Int} : prim .isStr [.int i] = some (.bl false) := rfl
theorem p_isStrB {b : Bool} : prim .isStr [.bl b] = some (.bl false) := rfl
theorem p_isLstT {xs : List D} : prim .isLst [.tup xs] = some (.bl false) := rfl
theorem c_isNI {i : Int} : cmpop .isN (.int i) .non = some false := rfl
theorem c_isNB {b : Bool} : cmpop .isN (.bl b) .non = some false := rfl
theorem c_eqB {a b : Bool} : cmpop .eq (.bl a) (.bl b) = some (a == b) := rfl
theorem c_neB {a b : Bool} : cmpop .ne (.bl a) (.bl b) = some (!(a == b)) := rfl
/-- what a tree of one def gives by Euclid's steps -/
def gcdI (a b : Int) : Int := ((Nat.gcd a.natAbs b.natAbs : Nat) : Int)
theorem gcd_loop {c : Env → R D} {b : Env → R Fl} (hc : ∀ x y : Int, c [some (.val (.int x)), some (.val (.int y))] = .ok (.bl (!decide (y = 0))) [some (.val (.int x)), some (.val (.int y))])
    (hb : ∀ x y : Int, y ≠ 0 → b [some (.val (.int x)), some (.val (.int y))] = .ok .nx [some (.val (.int y)), some (.val (.int (x.fmod y)))]) :
    ∀ (fuel x y : Nat), y < fuel → loopW c b fuel [some (.val (.int x)), some (.val (.int y))] = .ok .nx [some (.val (.int (Nat.gcd x y : Nat))), some (.val (.int 0))]
  | 0, x, y, h => by omega
  | fuel + 1, x, y, h => by
    unfold loopW
    rw [hc]
    by_cases z : y = 0
    · subst z
      show R.ok Fl.nx _ = _
      rw [Nat.gcd_zero_right]
      rfl
    · have z' : (y : Int) ≠ 0 := by omega
      have e : (!decide ((y : Int) = 0)) = true := by simp [z]
      rw [e]
      show ((b [some (Sl.val (D.int x)), some (Sl.val (D.int y))]).bind _) = _
      rw [hb _ _ z']
      have e2 : (x : Int).fmod y = ((x % y : Nat) : Int) := by
        rw [Int.fmod_eq_emod_of_nonneg _ (by omega)]
        rfl
      rw [e2]
      have lt : x % y < y := Nat.mod_lt _ (by omega)
      show loopW c b fuel _ = _
      rw [gcd_loop hc hb fuel y (x % y) (by omega), Nat.gcd_comm x y, Nat.gcd_rec y x, Nat.gcd_comm (x % y) y]
end Ev
set_option Elab.async false
set_option linter.all false
set_option maxRecDepth 100000
set_option maxHeartbeats 4000000
set_option autoImplicit false
/-! Pl1: what the laws' own defs do: drawing. -/
namespace Ev
def fTaken : Fn := ⟨2, 4, true, (.cons (.ite (.cmp .gt (.oix 0 (.lit (.int 3))) (.lit (.int 0))) (.cons (.asg (.nm 2) (.bin .mod (.prim .int (.cons (.oix 0 (.lit (.int 3))) .nil)) (.var 1))) (.cons (.setix 0 (.lit (.int 3)) (.bin .fdiv (.oix 0 (.lit (.int 3))) (.var 1))) (.cons (.ret (.var 2)) .nil))) .nil) (.cons (.setix 0 (.lit (.int 1)) (.bin .add (.oix 0 (.lit (.int 1))) (.lit (.int 1)))) (.cons (.ite (.cmp .gt (.oix 0 (.lit (.int 1))) (.prim .len (.cons (.oix 0 (.lit (.int 0))) .nil))) (.cons (.setix 0 (.lit (.int 2)) (.bin .mod (.prim .int (.cons (.bin .add (.bin .mul (.oix 0 (.lit (.int 2))) (.lit (.int 48271))) (.lit (.int 11))) .nil)) (.lit (.int 2147483647)))) (.cons (.ret (.bin .mod (.prim .int (.cons (.bin .fdiv (.oix 0 (.lit (.int 2))) (.lit (.int 7))) .nil)) (.var 1))) .nil)) .nil) (.cons (.asg (.nm 3) (.ix (.oix 0 (.lit (.int 0))) (.bin .sub (.oix 0 (.lit (.int 1))) (.lit (.int 1))))) (.cons (.setix 0 (.lit (.int 2)) (.bin .mod (.prim .int (.cons (.bin .add (.bin .add (.bin .mul (.oix 0 (.lit (.int 2))) (.lit (.int 48271))) (.var 3)) (.lit (.int 11))) .nil)) (.lit (.int 2147483647)))) (.cons (.ite (.cmp .ge (.var 3) (.bin .pow (.lit (.int 10)) (.lit (.int 18)))) (.cons (.setix 0 (.lit (.int 3)) (.bin .fdiv (.var 3) (.var 1))) .nil) .nil) (.cons (.ret (.bin .mod (.prim .int (.cons (.var 3) .nil)) (.var 1))) .nil)))))))⟩
/-- the row that draws: the script, how far it is read, two numbers -/
def Row (s : List Int) (cs : List D) : Prop := ∃ i r h : Int, cs = [.fz (s.map D.int), .int i, .int r, .int h] ∧ 0 ≤ i ∧ 0 ≤ r ∧ r < 2147483648 ∧ 0 ≤ h
theorem fmod_rng {i j : Int} (h : 0 < j) : 0 ≤ i.fmod j ∧ i.fmod j < j := ⟨Int.fmod_nonneg_of_pos i h, Int.fmod_lt_of_pos i h⟩
theorem fdiv_nn {i j : Int} (h : 0 ≤ i) (k : 0 < j) : 0 ≤ i.fdiv j := by
  rw [Int.fdiv_eq_ediv_of_nonneg _ (by omega)]
  exact Int.ediv_nonneg h (by omega)
theorem place_nn {n k : Nat} (h : k < n) : place n (Int.ofNat k) = some k := by
  unfold place
  exact if_pos h
theorem taken_ok {C : Ctx} {s : List Int} {cs : List D} {m : Int} (hs : s.length ≤ 63) (hr : Row s cs) (h0 : 0 < m) (hm : m < 4294967296) :
    ∃ v cs', runFn C fTaken [.own cs, .val (.int m)] = .ok (.int v) cs' ∧ Row s cs' ∧ 0 ≤ v ∧ v < m := by
  obtain ⟨i, r, h, rfl, hi, hr0, hr1, hh⟩ := hr
  have hm0 : m ≠ 0 := by omega
  have hmL : L 7 m := S64.of (by omega) 7
  have e0 : ∀ a b c d : D, at_ [a, b, c, d] 0 = some a := fun _ _ _ _ => rfl
  have e1 : ∀ a b c d : D, at_ [a, b, c, d] 1 = some b := fun _ _ _ _ => rfl
  have e2 : ∀ a b c d : D, at_ [a, b, c, d] 2 = some c := fun _ _ _ _ => rfl
  have e3 : ∀ a b c d : D, at_ [a, b, c, d] 3 = some d := fun _ _ _ _ => rfl
  have p1 : ∀ a b c d x : D, setAt [a, b, c, d] (.int 1) x = some [a, x, c, d] := fun _ _ _ _ _ => rfl
  have p2 : ∀ a b c d x : D, setAt [a, b, c, d] (.int 2) x = some [a, b, x, d] := fun _ _ _ _ _ => rfl
  have p3 : ∀ a b c d x : D, setAt [a, b, c, d] (.int 3) x = some [a, b, c, x] := fun _ _ _ _ _ => rfl
  by_cases hp : 0 < h
  · refine ⟨h.fmod m, [.fz (s.map D.int), .int i, .int r, .int (h.fdiv m)], ?_, ⟨i, r, _, rfl, hi, hr0, hr1, fdiv_nn hh h0⟩, fmod_rng h0⟩
    simp only [runFn, fTaken, denS, den, denL, ioOk, getO, Option.isSome, List.map, List.replicate, R.bind, R.of, R.way, D.tr, D.truth, getV, x_lst, x_fz, c_gt, p_int, fmod_L hm0, fdiv_L hm0 hmL, bindT, endOf, List.cons_append, List.nil_append, List.getElem?_cons_zero, List.getElem?_cons_succ, List.set,
      e3, p3, Option.map, Option.bind, hp, decide_true]
  have hp' : decide (0 < h) = false := decide_eq_false hp
  have hl : prim .len [.fz (s.map D.int)] = some (.int (s.length : Int)) := by
    show (if (s.map D.int).length ≤ lim then some (D.int ((s.map D.int).length : Int)) else none) = _
    rw [List.length_map, if_pos (Nat.le_trans hs (by decide))]
  have hm2 : L 12 r := S64.of (by omega) 12
  have hc : L 12 48271 := S64.of (by decide) 12
  have h7 : L 7 7 := S64.of (by decide) 7
  have hb : (2147483647 : Int) ≠ 0 := by decide
  have h77 : (7 : Int) ≠ 0 := by decide
  have q2 := fun x : Int => fmod_rng (i := x) (j := 2147483647) (by decide)
  by_cases hq : (s.length : Int) < i + 1
  · refine ⟨(((r * 48271 + 11).fmod 2147483647).fdiv 7).fmod m, [.fz (s.map D.int), .int (i + 1), .int ((r * 48271 + 11).fmod 2147483647), .int h], ?_, ⟨_, _, h, rfl, by omega, (q2 _).1, by have := (q2 (r * 48271 + 11)).2; omega, hh⟩, fmod_rng h0⟩
    simp only [runFn, fTaken, denS, den, denL, ioOk, getO, Option.isSome, List.map, List.replicate, R.bind, R.of, R.way, D.tr, D.truth, getV, x_lst, c_gt, p_int, hl, mul_L hm2 hc, add_L, fmod_L hm0, fmod_L hb, fdiv_L h77 h7, bindT, endOf, List.cons_append, List.nil_append, List.getElem?_cons_zero, List.getElem?_cons_succ, List.set,
      e0, e1, e2, e3, p1, p2, p3, Option.map, Option.bind, hp', hq, decide_true]
  · have hq' : decide ((s.length : Int) < i + 1) = false := decide_eq_false hq
    have hi2 : i.toNat < s.length := by omega
    have hx : ixop (.fz (s.map D.int)) (.int (i + 1 - 1)) = some (.int s[i.toNat]) := by
      show at_ (s.map D.int) (i + 1 - 1) = _
      have e : i + 1 - 1 = Int.ofNat i.toNat := by
        show _ = (i.toNat : Int)
        omega
      unfold at_
      rw [e, place_nn (by rw [List.length_map]; exact hi2)]
      show (s.map D.int)[i.toNat]? = _
      rw [List.getElem?_map, List.getElem?_eq_getElem hi2]
      rfl
    have hpw : binop .pow (.int 10) (.int 18) = some (.int 1000000000000000000) := by
      show (if (0 : Int) ≤ 18 ∧ (18 : Int) ≤ 1000000 ∧ (10 : Int).natAbs < 2 ^ 64 then some (D.int (10 ^ (18 : Int).toNat)) else none) = _
      rw [if_pos (by decide)]
      rfl
    generalize s[i.toNat] = c at hx
    by_cases hk : (1000000000000000000 : Int) ≤ c
    · refine ⟨c.fmod m, [.fz (s.map D.int), .int (i + 1), .int ((r * 48271 + c + 11).fmod 2147483647), .int (c.fdiv m)], ?_, ⟨_, _, _, rfl, by omega, (q2 _).1, by have := (q2 (r * 48271 + c + 11)).2; omega, fdiv_nn (by omega) h0⟩, fmod_rng h0⟩
      simp only [runFn, fTaken, denS, den, denL, ioOk, getO, Option.isSome, List.map, List.replicate, R.bind, R.of, R.way, D.tr, D.truth, getV, hx, x_lst, c_gt, c_ge, p_int, hl, hpw, mul_L hm2 hc, add_L, sub_L, fmod_L hm0, fmod_L hb, fdiv_L hm0 hmL, bindT, endOf, List.cons_append, List.nil_append, List.getElem?_cons_zero, List.getElem?_cons_succ, List.set,
        e0, e1, e2, e3, p1, p2, p3, Option.map, Option.bind, hp', hq', hk, decide_true]
    · have hk' : decide ((1000000000000000000 : Int) ≤ c) = false := decide_eq_false hk
      refine ⟨c.fmod m, [.fz (s.map D.int), .int (i + 1), .int ((r * 48271 + c + 11).fmod 2147483647), .int h], ?_, ⟨_, _, _, rfl, by omega, (q2 _).1, by have := (q2 (r * 48271 + c + 11)).2; omega, hh⟩, fmod_rng h0⟩
      simp only [runFn, fTaken, denS, den, denL, ioOk, getO, Option.isSome, List.map, List.replicate, R.bind, R.of, R.way, D.tr, D.truth, getV, hx, x_lst, c_gt, c_ge, p_int, hl, hpw, mul_L hm2 hc, add_L, sub_L, fmod_L hm0, fmod_L hb, fdiv_L hm0 hmL, bindT, endOf, List.cons_append, List.nil_append, List.getElem?_cons_zero, List.getElem?_cons_succ, List.set,
        e0, e1, e2, e3, p1, p2, p3, Option.map, Option.bind, hp', hq', hk', decide_true]
end Ev
set_option Elab.async false
set_option linter.all false
set_option maxRecDepth 100000
set_option maxHeartbeats 4000000
set_option autoImplicit false
/-! Pl2: the defs that the laws share: numbers, ratios, points, drawing, likeness. -/
namespace Ev
/-! ### numbers -/
def sgn (i : Int) : Int := b01 (decide (0 < i)) - b01 (decide (i < 0))
theorem sub_bb {a b : Bool} : binop .sub (.bl a) (.bl b) = some (.int (b01 a - b01 b)) := rfl
theorem abs_nat (i : Int) : (if i < 0 then -i else i) = ((i.natAbs : Nat) : Int) := by
  split <;> omega
theorem sgn_cases (i : Int) : (sgn i = 1 ∧ 0 < i) ∨ (sgn i = 0 ∧ i = 0) ∨ (sgn i = -1 ∧ i < 0) := by
  unfold sgn b01
  by_cases h1 : 0 < i
  · have h2 : ¬ i < 0 := by omega
    simp [h1, h2]
  · by_cases h2 : i < 0
    · simp [h1, h2]
    · have : i = 0 := by omega
      simp [this]
theorem sgn_S {i : Int} : S64 (sgn i) := by
  rcases sgn_cases i with ⟨h, _⟩ | ⟨h, _⟩ | ⟨h, _⟩ <;> (rw [h]; exact S64.of (by decide))
theorem sgn_neg (i : Int) : sgn (-i) = 0 - sgn i := by
  rcases sgn_cases i with ⟨h, h'⟩ | ⟨h, h'⟩ | ⟨h, h'⟩ <;> rcases sgn_cases (-i) with ⟨k, k'⟩ | ⟨k, k'⟩ | ⟨k, k'⟩ <;> omega
theorem gcdI_pos {a b : Int} (h : b ≠ 0) : 0 < gcdI a b := by
  unfold gcdI
  have := Nat.gcd_pos_of_pos_right a.natAbs (n := b.natAbs) (by omega)
  omega
theorem gcdI_le {a b : Int} (h : b ≠ 0) : (gcdI a b).natAbs ≤ b.natAbs := by
  unfold gcdI
  have := Nat.gcd_le_right a.natAbs (n := b.natAbs) (by omega)
  omega
theorem gcdI_L {a b : Int} {k : Nat} (h : b ≠ 0) (l : L k b) : L k (gcdI a b) := by
  unfold L at *
  have := gcdI_le (a := a) h
  omega
def red (a b : Int) : Int × Int := (a.fdiv (gcdI a b), b.fdiv (gcdI a b))
def pr (p : Int × Int) : D := .tup [.int p.1, .int p.2]
structure Pt where
  x : Int
  y : Int
  w : Int
  deriving DecidableEq
def Pt.d (p : Pt) : D := .tup [.int p.x, .int p.y, .int p.w]
structure Sz (p : Pt) : Prop where
  x : S64 p.x
  y : S64 p.y
  w : S64 p.w
def low (x y w : Int) : Pt := ⟨x.fdiv (gcdI (gcdI x y) w), y.fdiv (gcdI (gcdI x y) w), w.fdiv (gcdI (gcdI x y) w)⟩
theorem di0 {p : Pt} : ixop p.d (.int 0) = some (.int p.x) := rfl
theorem di1 {p : Pt} : ixop p.d (.int 1) = some (.int p.y) := rfl
theorem di2 {p : Pt} : ixop p.d (.int 2) = some (.int p.w) := rfl
theorem pi0 {p : Int × Int} : ixop (pr p) (.int 0) = some (.int p.1) := rfl
theorem pi1 {p : Int × Int} : ixop (pr p) (.int 1) = some (.int p.2) := rfl
theorem pr_tup {a b : Int} : D.tup [.int a, .int b] = pr (a, b) := rfl
theorem pt_tup {a b c : Int} : D.tup [.int a, .int b, .int c] = Pt.d ⟨a, b, c⟩ := rfl
theorem t0 (a b c : D) : at_ [a, b, c] 0 = some a := rfl
theorem t1 (a b c : D) : at_ [a, b, c] 1 = some b := rfl
theorem t2 (a b c : D) : at_ [a, b, c] 2 = some c := rfl
theorem r0 (a b : D) : at_ [a, b] 0 = some a := rfl
theorem r1 (a b : D) : at_ [a, b] 1 = some b := rfl
theorem lim1 : (0 + 1 ≤ lim) = True := by decide
theorem lim2 : (0 + 1 + 1 ≤ lim) = True := by decide
theorem lim3 : (0 + 1 + 1 + 1 ≤ lim) = True := by decide
theorem lim4 : (0 + 1 + 1 + 1 + 1 ≤ lim) = True := by decide
theorem lim5 : (0 + 1 + 1 + 1 + 1 + 1 ≤ lim) = True := by decide
theorem lim6 : (0 + 1 + 1 + 1 + 1 + 1 + 1 ≤ lim) = True := by decide
theorem p_len3 {a b c : D} : prim .len [.tup [a, b, c]] = some (.int 3) := rfl
theorem c_eqP {a b : Pt} : cmpop .eq a.d b.d = some (decide (a = b)) := by
  have e : (D.sh 60 a.d && D.sh 60 b.d) = true := by simp [Pt.d, D.sh, D.shs]
  show (if (D.sh 60 a.d && D.sh 60 b.d) = true then some (D.eqv a.d b.d) else none) = _
  rw [if_pos e]
  obtain ⟨x, y, w⟩ := a
  obtain ⟨x', y', w'⟩ := b
  simp [Pt.d, D.eqv, D.eqvs]
theorem c_neP {a b : Pt} : cmpop .ne a.d b.d = some (!decide (a = b)) := by
  have e : (D.sh 60 a.d && D.sh 60 b.d) = true := by simp [Pt.d, D.sh, D.shs]
  show (if (D.sh 60 a.d && D.sh 60 b.d) = true then some (!D.eqv a.d b.d) else none) = _
  rw [if_pos e]
  obtain ⟨x, y, w⟩ := a
  obtain ⟨x', y', w'⟩ := b
  simp [Pt.d, D.eqv, D.eqvs]
theorem c_eqR {a b : Int × Int} : cmpop .eq (pr a) (pr b) = some (decide (a = b)) := by
  have e : (D.sh 60 (pr a) && D.sh 60 (pr b)) = true := by simp [pr, D.sh, D.shs]
  show (if (D.sh 60 (pr a) && D.sh 60 (pr b)) = true then some (D.eqv (pr a) (pr b)) else none) = _
  rw [if_pos e]
  obtain ⟨x, y⟩ := a
  obtain ⟨x', y'⟩ := b
  simp [pr, D.eqv, D.eqvs]
theorem c_neR {a b : Int × Int} : cmpop .ne (pr a) (pr b) = some (!decide (a = b)) := by
  have e : (D.sh 60 (pr a) && D.sh 60 (pr b)) = true := by simp [pr, D.sh, D.shs]
  show (if (D.sh 60 (pr a) && D.sh 60 (pr b)) = true then some (!D.eqv (pr a) (pr b)) else none) = _
  rw [if_pos e]
  obtain ⟨x, y⟩ := a
  obtain ⟨x', y'⟩ := b
  simp [pr, D.eqv, D.eqvs]
/-! ### likeness: whatever value, against itself -/
def fAlike (k : Nat) : Fn := ⟨2, 3, false, (.cons (.ite (.isi .isSeq (.var 1)) (.cons (.ite (.or (.not (.isi .isSeq (.var 0))) (.cmp .ne (.isi .isLst (.var 0)) (.isi .isLst (.var 1)))) (.cons (.ret (.lit (.bl false))) .nil) .nil) (.cons (.ite (.cmp .ne (.prim .len (.cons (.var 0) .nil)) (.prim .len (.cons (.var 1) .nil))) (.cons (.ret (.lit (.bl false))) .nil) .nil) (.cons (.ret (.cmp .eq (.lc [2] (.nm 2) (.rng1 (.prim .len (.cons (.var 1) .nil))) (.not (.call k none (.cons (.ix (.var 0) (.var 2)) (.cons (.ix (.var 1) (.var 2)) .nil)))) (.var 2)) (.lst .nil))) .nil))) .nil) (.cons (.ite (.or (.cmp .isN (.var 1) (.lit .non)) (.isi .isStr (.var 1))) (.cons (.ret (.and (.cmp .eq (.var 0) (.var 1)) (.cmp .eq (.isi .isStr (.var 0)) (.isi .isStr (.var 1))))) .nil) .nil) (.cons (.ret (.and (.isi .isInt (.var 0)) (.and (.cmp .eq (.isi .isBool (.var 0)) (.isi .isBool (.var 1))) (.cmp .eq (.var 0) (.var 1))))) .nil)))⟩
mutual
/-- values that likeness looks through: n deep -/
def D.pl : Nat → D → Bool
  | n, .tup ds => decide (ds.length < 1000) && D.pls n ds
  | n, .lst ds => decide (ds.length < 1000) && D.pls n ds
  | _, .str x => x.cps.all (· < 0x110000)
  | _, .fz _ => false
  | _, _ => true
def D.pls : Nat → List D → Bool
  | _, [] => true
  | 0, _ :: _ => false
  | n + 1, d :: ds => D.pl n d && D.pls (n + 1) ds
end
theorem pls_get : ∀ {n : Nat} {ds : List D} {i : Nat} {d : D}, D.pls (n + 1) ds = true → ds[i]? = some d → D.pl n d = true
  | n, [], i, d, _, e => by simp at e
  | n, x :: ds, 0, d, h, e => by
    unfold D.pls at h
    simp at e
    subst e
    exact (Bool.and_eq_true_iff.mp h).1
  | n, x :: ds, i + 1, d, h, e => by
    unfold D.pls at h
    exact pls_get (Bool.and_eq_true_iff.mp h).2 (by simpa using e)
theorem comp_none {c f : Env → R D} {a b : Option Sl} : ∀ (n : Nat) (lo : Int) (s2 : Option Sl), (∀ i : Int, lo ≤ i → i < lo + n → c [a, b, some (.val (.int i))] = .ok (.bl false) [a, b, some (.val (.int i))]) →
    ∃ s', compL [2] (.nm 2) c f (range_ lo n) [a, b, s2] = .ok [] [a, b, s']
  | 0, lo, s2, h => ⟨s2, rfl⟩
  | n + 1, lo, s2, h => by
    obtain ⟨s', e⟩ := comp_none n (lo + 1) (some (.val (.int lo))) fun i h1 h2 => h i (by omega) (by omega)
    refine ⟨s', ?_⟩
    unfold range_ compL
    simp only [wipes, bindT, List.set]
    rw [h lo (by omega) (by omega)]
    exact e
theorem at_all {ds : List D} {i : Int} (h0 : 0 ≤ i) (h1 : i < ds.length) : ∃ d, at_ ds i = some d ∧ ds[i.toNat]? = some d := by
  have hj : i.toNat < ds.length := by omega
  have e2 : i = Int.ofNat i.toNat := by
    show _ = (i.toNat : Int)
    omega
  have hp : place ds.length i = some i.toNat := by
    have q := place_nn hj
    rw [← e2] at q
    exact q
  refine ⟨ds[i.toNat], ?_, List.getElem?_eq_getElem hj⟩
  unfold at_
  rw [hp]
  exact List.getElem?_eq_getElem hj
def AlkS (C : Ctx) (k n : Nat) : Prop := ∀ d, D.pl n d = true → C.call k [.val d, .val d] = .ok (.bl true) []
theorem c_eqN : cmpop .eq (.lst []) (.lst []) = some true := rfl
theorem sh_str {x : PySem.Str} (h : (x.cps.all (· < 0x110000)) = true) : cmpop .eq (.str x) (.str x) = some true := by
  have e : (D.sh 60 (.str x) && D.sh 60 (.str x)) = true := by
    unfold D.sh
    rw [h]
    rfl
  show (if (D.sh 60 (.str x) && D.sh 60 (.str x)) = true then some (D.eqv (.str x) (.str x)) else none) = _
  rw [if_pos e]
  unfold D.eqv
  rw [decide_eq_true rfl]
theorem alike_seq {C : Ctx} {k n : Nat} {d : D} {ds : List D} (hx : ∀ i, ixop d (.int i) = at_ ds i) (hl : prim .len [d] = some (.int ds.length)) (hq : ∀ d, d ∈ ds → C.call k [.val d, .val d] = .ok (.bl true) []) (hn : ds.length < 1000) :
    den C (.cmp .eq (.lc [2] (.nm 2) (.rng1 (.prim .len (.cons (.var 1) .nil))) (.not (.call k none (.cons (.ix (.var 0) (.var 2)) (.cons (.ix (.var 1) (.var 2)) .nil)))) (.var 2)) (.lst .nil)) [some (.val d), some (.val d), none] = .ok (.bl true) [some (.val d), some (.val d), none] := by
  obtain ⟨s', e⟩ := comp_none (c := den C (.not (.call k none (.cons (.ix (.var 0) (.var 2)) (.cons (.ix (.var 1) (.var 2)) .nil))))) (f := den C (.var 2)) (a := some (.val d)) (b := some (.val d)) ds.length 0 none (fun i h0 h1 => by
    obtain ⟨x, x1, x2⟩ := at_all h0 (by omega : i < ds.length)
    have hc := hq x (List.mem_of_getElem? x2)
    simp (config := { maxDischargeDepth := 20 }) only [runFn, denS, den, denL, List.map, List.replicate, List.length_cons, List.length_nil, R.bind, R.of, R.way, D.tr, D.truth, getV, getO, ioOk, argsOf, afterCall, putIo, Option.isSome, Option.map, Option.bind, bindT, List.set, endOf, List.cons_append, List.nil_append, List.getElem?_cons_zero, List.getElem?_cons_succ, mul_L, add_L, sub_L, L.mul, L.sub, L.add, x_lst, x_tup, x_fz, c_lt, c_le, c_gt, c_ge, c_eq, c_ne, c_eqB, c_neB, c_isNI, c_isNB, p_int, p_abs, p_isInt, p_isIntB, p_isBool, p_isBoolB, p_isTup, p_isLst, p_isLstT, p_isSeqT, p_isSeqL, p_isSeqI, p_isSeqB, p_isStrI, p_isStrB, Nat.reduceAdd, Nat.reduceSub, decide_true, decide_false, Bool.not_true, Bool.not_false, Bool.not_not, hx, x1, hc])
  have hr : rangeOk 0 (ds.length : Int) = true := by
    unfold rangeOk
    exact decide_eq_true (by omega)
  have e1 : denL C (.rng1 (.prim .len (.cons (.var 1) .nil))) [some (.val d), some (.val d), none] = .ok (range_ 0 ds.length) [some (.val d), some (.val d), none] := by
    simp (config := { maxDischargeDepth := 20 }) only [runFn, denS, den, denL, List.map, List.replicate, List.length_cons, List.length_nil, R.bind, R.of, R.way, D.tr, D.truth, getV, getO, ioOk, argsOf, afterCall, putIo, Option.isSome, Option.map, Option.bind, bindT, List.set, endOf, List.cons_append, List.nil_append, List.getElem?_cons_zero, List.getElem?_cons_succ, mul_L, add_L, sub_L, L.mul, L.sub, L.add, x_lst, x_tup, x_fz, c_lt, c_le, c_gt, c_ge, c_eq, c_ne, c_eqB, c_neB, c_isNI, c_isNB, p_int, p_abs, p_isInt, p_isIntB, p_isBool, p_isBoolB, p_isTup, p_isLst, p_isLstT, p_isSeqT, p_isSeqL, p_isSeqI, p_isSeqB, p_isStrI, p_isStrB, Nat.reduceAdd, Nat.reduceSub, decide_true, decide_false, Bool.not_true, Bool.not_false, Bool.not_not, hl, hr, Int.toNat_natCast, ↓reduceIte]
  have e2 : den C (.lc [2] (.nm 2) (.rng1 (.prim .len (.cons (.var 1) .nil))) (.not (.call k none (.cons (.ix (.var 0) (.var 2)) (.cons (.ix (.var 1) (.var 2)) .nil)))) (.var 2)) [some (.val d), some (.val d), none] = .ok (.lst []) [some (.val d), some (.val d), none] := by
    show ((denL C (.rng1 (.prim .len (.cons (.var 1) .nil))) [some (.val d), some (.val d), none]).bind fun ds e => match [2].all fun v => (getO e v).isNone with
      | true => match compL [2] (.nm 2) (den C (.not (.call k none (.cons (.ix (.var 0) (.var 2)) (.cons (.ix (.var 1) (.var 2)) .nil))))) (den C (.var 2)) ds e with
        | .ok ys e1 => if ys.length ≤ lim then R.ok (D.lst ys) (backs e e1 [2]) else .no
        | _ => .no
      | false => .no) = _
    rw [e1]
    show (match compL [2] (.nm 2) (den C (.not (.call k none (.cons (.ix (.var 0) (.var 2)) (.cons (.ix (.var 1) (.var 2)) .nil))))) (den C (.var 2)) (range_ 0 ds.length) [some (.val d), some (.val d), none] with
        | .ok ys e1 => if ys.length ≤ lim then R.ok (D.lst ys) (backs [some (.val d), some (.val d), none] e1 [2]) else .no
        | _ => .no) = _
    rw [e]
    rfl
  show ((den C (.lc [2] (.nm 2) (.rng1 (.prim .len (.cons (.var 1) .nil))) (.not (.call k none (.cons (.ix (.var 0) (.var 2)) (.cons (.ix (.var 1) (.var 2)) .nil)))) (.var 2)) [some (.val d), some (.val d), none]).bind _) = _
  rw [e2]
  rfl
theorem al_non {C : Ctx} {k : Nat} : runFn C (fAlike k) [.val .non, .val .non] = .ok (.bl true) [] := rfl
theorem al_bl {C : Ctx} {k : Nat} {b : Bool} : runFn C (fAlike k) [.val (.bl b), .val (.bl b)] = .ok (.bl true) [] := by
  cases b <;> rfl
theorem al_int {C : Ctx} {k : Nat} {i : Int} : runFn C (fAlike k) [.val (.int i), .val (.int i)] = .ok (.bl true) [] := by
  have h : cmpop .eq (.int i) (.int i) = some true := by rw [c_eq]; simp
  simp only [runFn, fAlike, denS, den, denL, List.map, List.replicate, R.bind, R.of, R.way, D.tr, D.truth, getV, p_isSeqI, p_isStrI, p_isInt, p_isBool, c_isNI, c_eqB, h, Option.map, endOf, List.cons_append, List.nil_append, List.getElem?_cons_zero, List.getElem?_cons_succ]
  rfl
theorem al_str {C : Ctx} {k : Nat} {x : PySem.Str} (hx : (x.cps.all (· < 0x110000)) = true) : runFn C (fAlike k) [.val (.str x), .val (.str x)] = .ok (.bl true) [] := by
  have i1 : prim .isSeq [.str x] = some (.bl false) := rfl
  have i2 : prim .isStr [.str x] = some (.bl true) := rfl
  have i3 : cmpop .isN (.str x) .non = some false := rfl
  simp only [runFn, fAlike, denS, den, denL, List.map, List.replicate, R.bind, R.of, R.way, D.tr, D.truth, getV, i1, i2, i3, c_eqB, sh_str hx, Option.map, endOf, List.cons_append, List.nil_append, List.getElem?_cons_zero, List.getElem?_cons_succ]
  rfl
theorem s_ite {C : Ctx} {c : Ex} {a b r : Sm} {e : Env} {v : Bool} (h : den C c e = .ok (.bl v) e) : denS C (.cons (.ite c a b) r) e = (if v = true then denS C a e else denS C b e).bind fun f e => match f with
    | .nx => denS C r e
    | f => .ok f e := by
  simp only [denS]
  rw [h]
  cases v <;> rfl
theorem s_ret {C : Ctx} {x : Ex} {r : Sm} {e e' : Env} {d : D} (h : den C x e = .ok d e') : denS C (.cons (.ret x) r) e = .ok (.rt d) e' := by
  simp only [denS]
  rw [h]
  rfl
theorem s_nil {C : Ctx} {e : Env} : denS C .nil e = .ok .nx e := rfl
theorem al_run {C : Ctx} {k : Nat} {d : D} {n : Int} (l0 : Bool) (h1 : prim .isSeq [d] = some (.bl true)) (h2 : prim .isLst [d] = some (.bl l0)) (hl : prim .len [d] = some (.int n))
    (q : den C (.cmp .eq (.lc [2] (.nm 2) (.rng1 (.prim .len (.cons (.var 1) .nil))) (.not (.call k none (.cons (.ix (.var 0) (.var 2)) (.cons (.ix (.var 1) (.var 2)) .nil)))) (.var 2)) (.lst .nil)) [some (.val d), some (.val d), none] = .ok (.bl true) [some (.val d), some (.val d), none]) :
    runFn C (fAlike k) [.val d, .val d] = .ok (.bl true) [] := by
  have c0 : cmpop .ne (.int n) (.int n) = some false := by rw [c_ne]; simp
  have b0 : cmpop .ne (.bl l0) (.bl l0) = some false := by rw [c_neB]; cases l0 <;> rfl
  have e1 : den C (.isi .isSeq (.var 1)) [some (.val d), some (.val d), none] = .ok (.bl true) [some (.val d), some (.val d), none] := by simp (config := { maxDischargeDepth := 20 }) only [runFn, denS, den, denL, List.map, List.replicate, List.length_cons, List.length_nil, R.bind, R.of, R.way, D.tr, D.truth, getV, getO, ioOk, argsOf, afterCall, putIo, Option.isSome, Option.map, Option.bind, bindT, List.set, endOf, List.cons_append, List.nil_append, List.getElem?_cons_zero, List.getElem?_cons_succ, mul_L, add_L, sub_L, L.mul, L.sub, L.add, x_lst, x_tup, x_fz, c_lt, c_le, c_gt, c_ge, c_eq, c_ne, c_eqB, c_neB, c_isNI, c_isNB, p_int, p_abs, p_isInt, p_isIntB, p_isBool, p_isBoolB, p_isTup, p_isLst, p_isLstT, p_isSeqT, p_isSeqL, p_isSeqI, p_isSeqB, p_isStrI, p_isStrB, Nat.reduceAdd, Nat.reduceSub, decide_true, decide_false, Bool.not_true, Bool.not_false, Bool.not_not, h1]
  have e2 : den C (.or (.not (.isi .isSeq (.var 0))) (.cmp .ne (.isi .isLst (.var 0)) (.isi .isLst (.var 1)))) [some (.val d), some (.val d), none] = .ok (.bl false) [some (.val d), some (.val d), none] := by simp (config := { maxDischargeDepth := 20 }) only [runFn, denS, den, denL, List.map, List.replicate, List.length_cons, List.length_nil, R.bind, R.of, R.way, D.tr, D.truth, getV, getO, ioOk, argsOf, afterCall, putIo, Option.isSome, Option.map, Option.bind, bindT, List.set, endOf, List.cons_append, List.nil_append, List.getElem?_cons_zero, List.getElem?_cons_succ, mul_L, add_L, sub_L, L.mul, L.sub, L.add, x_lst, x_tup, x_fz, c_lt, c_le, c_gt, c_ge, c_eq, c_ne, c_eqB, c_neB, c_isNI, c_isNB, p_int, p_abs, p_isInt, p_isIntB, p_isBool, p_isBoolB, p_isTup, p_isLst, p_isLstT, p_isSeqT, p_isSeqL, p_isSeqI, p_isSeqB, p_isStrI, p_isStrB, Nat.reduceAdd, Nat.reduceSub, decide_true, decide_false, Bool.not_true, Bool.not_false, Bool.not_not, h1, h2, b0]
  have e3 : den C (.cmp .ne (.prim .len (.cons (.var 0) .nil)) (.prim .len (.cons (.var 1) .nil))) [some (.val d), some (.val d), none] = .ok (.bl false) [some (.val d), some (.val d), none] := by simp (config := { maxDischargeDepth := 20 }) only [runFn, denS, den, denL, List.map, List.replicate, List.length_cons, List.length_nil, R.bind, R.of, R.way, D.tr, D.truth, getV, getO, ioOk, argsOf, afterCall, putIo, Option.isSome, Option.map, Option.bind, bindT, List.set, endOf, List.cons_append, List.nil_append, List.getElem?_cons_zero, List.getElem?_cons_succ, mul_L, add_L, sub_L, L.mul, L.sub, L.add, x_lst, x_tup, x_fz, c_lt, c_le, c_gt, c_ge, c_eq, c_ne, c_eqB, c_neB, c_isNI, c_isNB, p_int, p_abs, p_isInt, p_isIntB, p_isBool, p_isBoolB, p_isTup, p_isLst, p_isLstT, p_isSeqT, p_isSeqL, p_isSeqI, p_isSeqB, p_isStrI, p_isStrB, Nat.reduceAdd, Nat.reduceSub, decide_true, decide_false, Bool.not_true, Bool.not_false, Bool.not_not, hl, c0]
  unfold runFn
  show (match denS C (fAlike k).body [some (.val d), some (.val d), none] with
    | R.ok Fl.nx e => endOf false .non e
    | R.ok (Fl.rt d) e => endOf false d e
    | R.ex x _ => O.ex x
    | _ => .no) = _
  unfold fAlike
  rw [s_ite e1, if_pos rfl, s_ite e2, if_neg Bool.false_ne_true, s_nil]
  show (match R.bind (denS C (.cons (.ite _ _ _) _) _) _ with
    | R.ok Fl.nx e => endOf false .non e
    | R.ok (Fl.rt d) e => endOf false d e
    | R.ex x _ => O.ex x
    | _ => .no) = _
  rw [s_ite e3, if_neg Bool.false_ne_true, s_nil]
  show (match R.bind (denS C (.cons (.ret _) _) _) _ with
    | R.ok Fl.nx e => endOf false .non e
    | R.ok (Fl.rt d) e => endOf false d e
    | R.ex x _ => O.ex x
    | _ => .no) = _
  rw [s_ret q]
  rfl
theorem al_tup {C : Ctx} {k : Nat} {ds : List D} (h1 : ds.length < 1000) (hq : ∀ d, d ∈ ds → C.call k [.val d, .val d] = .ok (.bl true) []) : runFn C (fAlike k) [.val (.tup ds), .val (.tup ds)] = .ok (.bl true) [] := by
  have hl : prim .len [.tup ds] = some (.int ds.length) := if_pos (Nat.le_trans (Nat.le_of_lt h1) (by decide))
  exact al_run false rfl rfl hl (alike_seq (n := 0) (fun i => rfl) hl hq h1)
theorem al_lst {C : Ctx} {k : Nat} {ds : List D} (h1 : ds.length < 1000) (hq : ∀ d, d ∈ ds → C.call k [.val d, .val d] = .ok (.bl true) []) : runFn C (fAlike k) [.val (.lst ds), .val (.lst ds)] = .ok (.bl true) [] := by
  have hl : prim .len [.lst ds] = some (.int ds.length) := if_pos (Nat.le_trans (Nat.le_of_lt h1) (by decide))
  exact al_run true rfl rfl hl (alike_seq (n := 0) (fun i => rfl) hl hq h1)
theorem pl_tup {n : Nat} {ds : List D} (h : D.pl n (.tup ds) = true) : ds.length < 1000 ∧ D.pls n ds = true := by
  unfold D.pl at h
  obtain ⟨h1, h2⟩ := Bool.and_eq_true_iff.mp h
  exact ⟨of_decide_eq_true h1, h2⟩
theorem pl_lst {n : Nat} {ds : List D} (h : D.pl n (.lst ds) = true) : ds.length < 1000 ∧ D.pls n ds = true := by
  unfold D.pl at h
  obtain ⟨h1, h2⟩ := Bool.and_eq_true_iff.mp h
  exact ⟨of_decide_eq_true h1, h2⟩
theorem run_alike {C : Ctx} {k n : Nat} {d : D} (h : ∀ m, n = m + 1 → AlkS C k m) (hd : D.pl n d = true) : runFn C (fAlike k) [.val d, .val d] = .ok (.bl true) [] := by
  have items : ∀ {ds : List D}, D.pls n ds = true → ∀ d, d ∈ ds → C.call k [.val d, .val d] = .ok (.bl true) [] := fun {ds} hp d hm => by
    obtain ⟨i, hi⟩ := List.mem_iff_getElem?.mp hm
    cases n with
    | zero =>
      cases ds with
      | nil => simp at hi
      | cons x r => unfold D.pls at hp; cases hp
    | succ m => exact h m rfl d (pls_get hp hi)
  cases d with
  | non => exact al_non
  | bl b => exact al_bl
  | int i => exact al_int
  | str x => exact al_str (by unfold D.pl at hd; exact hd)
  | tup ds => exact al_tup (pl_tup hd).1 (items (pl_tup hd).2)
  | lst ds => exact al_lst (pl_lst hd).1 (items (pl_lst hd).2)
  | fz ds => unfold D.pl at hd; cases hd
end Ev
set_option Elab.async false
set_option linter.all false
set_option maxRecDepth 100000
set_option maxHeartbeats 4000000
set_option autoImplicit false
/-! Pl3: the shared defs, each by what its calls do. -/
namespace Ev
/-! ### what calls do -/
def GcdS (C : Ctx) (g : Nat) : Prop := ∀ a b : Int, b.natAbs < C.fuel → C.call g [.val (.int a), .val (.int b)] = .ok (.int (gcdI a b)) []
def RatS (C : Ctx) (r : Nat) : Prop := ∀ a b : Int, 0 < b → L 7 b → b.natAbs < C.fuel → C.call r [.val (.int a), .val (.int b)] = .ok (pr (red a b)) []
def LowS (C : Ctx) (l : Nat) : Prop := ∀ x y w : Int, 0 < w → L 7 w → y.natAbs < C.fuel → w.natAbs < C.fuel → C.call l [.val (.int x), .val (.int y), .val (.int w)] = .ok (low x y w).d []
def SgnS (C : Ctx) (f : Nat) : Prop := ∀ i : Int, C.call f [.val (.int i)] = .ok (.int (sgn i)) []
def InS (C : Ctx) (f : Nat) : Prop := ∀ v l m : Int, l ≤ v → v ≤ m → C.call f [.val (.int v), .val (.int l), .val (.int m)] = .ok (.bl true) []
def TakS (C : Ctx) (t : Nat) : Prop := ∀ (s : List Int) (cs : List D) (m : Int), s.length ≤ 63 → Row s cs → 0 < m → m < 4294967296 → ∃ v cs', C.call t [.own cs, .val (.int m)] = .ok (.int v) cs' ∧ Row s cs' ∧ 0 ≤ v ∧ v < m
def SigS (C : Ctx) (f : Nat) : Prop := ∀ (s : List Int) (cs : List D) (m : Int), s.length ≤ 63 → Row s cs → 0 ≤ m → m < 1000000000 → ∃ v cs', C.call f [.own cs, .val (.int m)] = .ok (.int v) cs' ∧ Row s cs' ∧ -m ≤ v ∧ v ≤ m
def PicS (C : Ctx) (f : Nat) : Prop := ∀ (s : List Int) (cs : List D) (xs : List D), s.length ≤ 63 → Row s cs → 0 < xs.length → xs.length < 1000 → ∃ (j : Nat) (h : j < xs.length) (cs' : List D), C.call f [.own cs, .val (.lst xs)] = .ok xs[j] cs' ∧ Row s cs'
/-! ### the defs -/
def fGcd : Fn := ⟨2, 2, false, (.cons (.par2 0 1 (.prim .abs (.cons (.var 0) .nil)) (.prim .abs (.cons (.var 1) .nil))) (.cons (.whl (.cmp .ne (.var 1) (.lit (.int 0))) (.cons (.par2 0 1 (.var 1) (.bin .mod (.var 0) (.var 1))) .nil)) (.cons (.ret (.var 0)) .nil)))⟩
def fGcdL : Fn := ⟨2, 2, false, (.cons (.par2 0 1 (.prim .abs (.cons (.var 0) .nil)) (.prim .abs (.cons (.var 1) .nil))) (.cons (.whl (.cmp .ne (.var 1) (.lit (.int 0))) (.cons (.par2 0 1 (.var 1) (.bin .mod (.prim .int (.cons (.var 0) .nil)) (.var 1))) .nil)) (.cons (.ret (.var 0)) .nil)))⟩
def fReduced (g : Nat) : Fn := ⟨2, 3, false, (.cons (.asg (.nm 2) (.call g none (.cons (.var 0) (.cons (.var 1) .nil)))) (.cons (.ite (.cmp .lt (.var 1) (.lit (.int 0))) (.cons (.asg (.nm 2) (.neg (.var 2))) .nil) .nil) (.cons (.ret (.tup (.cons (.bin .fdiv (.var 0) (.var 2)) (.cons (.bin .fdiv (.var 1) (.var 2)) .nil)))) .nil)))⟩
def fRatio (g : Nat) : Fn := ⟨2, 3, false, (.cons (.asg (.nm 2) (.call g none (.cons (.var 0) (.cons (.var 1) .nil)))) (.cons (.asg (.nm 2) (.ite (.cmp .lt (.var 1) (.lit (.int 0))) (.bin .sub (.lit (.int 0)) (.var 2)) (.var 2))) (.cons (.ret (.tup (.cons (.bin .fdiv (.var 0) (.var 2)) (.cons (.bin .fdiv (.var 1) (.var 2)) .nil)))) .nil)))⟩
def fSign : Fn := ⟨1, 1, false, (.cons (.ret (.bin .sub (.cmp .gt (.var 0) (.lit (.int 0))) (.cmp .lt (.var 0) (.lit (.int 0))))) .nil)⟩
def fSignL : Fn := ⟨1, 1, false, (.cons (.ret (.ite (.cmp .gt (.var 0) (.lit (.int 0))) (.lit (.int 1)) (.ite (.cmp .lt (.var 0) (.lit (.int 0))) (.neg (.lit (.int 1))) (.lit (.int 0))))) .nil)⟩
def fLow (g : Nat) : Fn := ⟨3, 4, false, (.cons (.asg (.nm 3) (.call g none (.cons (.call g none (.cons (.var 0) (.cons (.var 1) .nil))) (.cons (.var 2) .nil)))) (.cons (.ite (.cmp .lt (.var 2) (.lit (.int 0))) (.cons (.asg (.nm 3) (.neg (.var 3))) .nil) .nil) (.cons (.ret (.tup (.cons (.bin .fdiv (.var 0) (.var 3)) (.cons (.bin .fdiv (.var 1) (.var 3)) (.cons (.bin .fdiv (.var 2) (.var 3)) .nil))))) .nil)))⟩
def fLowL (g : Nat) : Fn := ⟨3, 4, false, (.cons (.asg (.nm 3) (.call g none (.cons (.call g none (.cons (.var 0) (.cons (.var 1) .nil))) (.cons (.var 2) .nil)))) (.cons (.asg (.nm 3) (.ite (.cmp .lt (.var 2) (.lit (.int 0))) (.bin .sub (.lit (.int 0)) (.var 3)) (.var 3))) (.cons (.ret (.tup (.cons (.bin .fdiv (.var 0) (.var 3)) (.cons (.bin .fdiv (.var 1) (.var 3)) (.cons (.bin .fdiv (.var 2) (.var 3)) .nil))))) .nil)))⟩
def fIn : Fn := ⟨3, 3, false, (.cons (.ret (.and (.isi .isInt (.var 0)) (.and (.not (.isi .isBool (.var 0))) (.cmp2 .le .le (.var 1) (.var 0) (.var 2))))) .nil)⟩
def fSigned (t : Nat) : Fn := ⟨2, 2, true, (.cons (.ret (.bin .sub (.call t (some 0) (.cons (.bin .add (.bin .mul (.lit (.int 2)) (.var 1)) (.lit (.int 1))) .nil)) (.var 1))) .nil)⟩
def fPick (t : Nat) : Fn := ⟨2, 2, true, (.cons (.ret (.ix (.var 1) (.call t (some 0) (.cons (.prim .len (.cons (.var 1) .nil)) .nil)))) .nil)⟩
/-! ### what they do -/
variable {C : Ctx} {g t : Nat}
theorem run_sign {i : Int} : runFn C fSign [.val (.int i)] = .ok (.int (sgn i)) [] := by
  simp (config := { maxDischargeDepth := 20 }) only [runFn, denS, den, denL, List.map, List.replicate, List.length_cons, List.length_nil, R.bind, R.of, R.way, D.tr, D.truth, getV, getO, ioOk, argsOf, afterCall, putIo, Option.isSome, Option.map, Option.bind, bindT, List.set, endOf, List.cons_append, List.nil_append, List.getElem?_cons_zero, List.getElem?_cons_succ, mul_L, add_L, sub_L, L.mul, L.sub, L.add, x_lst, x_tup, x_fz, c_lt, c_le, c_gt, c_ge, c_eq, c_ne, c_eqB, c_neB, c_isNI, c_isNB, p_int, p_abs, p_isInt, p_isIntB, p_isBool, p_isBoolB, p_isTup, p_isLst, p_isLstT, p_isSeqT, p_isSeqL, p_isSeqI, p_isSeqB, p_isStrI, p_isStrB, Nat.reduceAdd, Nat.reduceSub, decide_true, decide_false, Bool.not_true, Bool.not_false, Bool.not_not, fSign, sub_bb, sgn]
theorem run_signL {i : Int} : runFn C fSignL [.val (.int i)] = .ok (.int (sgn i)) [] := by
  by_cases h1 : 0 < i
  · have h2 : ¬ i < 0 := by omega
    simp (config := { maxDischargeDepth := 20 }) only [runFn, denS, den, denL, List.map, List.replicate, List.length_cons, List.length_nil, R.bind, R.of, R.way, D.tr, D.truth, getV, getO, ioOk, argsOf, afterCall, putIo, Option.isSome, Option.map, Option.bind, bindT, List.set, endOf, List.cons_append, List.nil_append, List.getElem?_cons_zero, List.getElem?_cons_succ, mul_L, add_L, sub_L, L.mul, L.sub, L.add, x_lst, x_tup, x_fz, c_lt, c_le, c_gt, c_ge, c_eq, c_ne, c_eqB, c_neB, c_isNI, c_isNB, p_int, p_abs, p_isInt, p_isIntB, p_isBool, p_isBoolB, p_isTup, p_isLst, p_isLstT, p_isSeqT, p_isSeqL, p_isSeqI, p_isSeqB, p_isStrI, p_isStrB, Nat.reduceAdd, Nat.reduceSub, decide_true, decide_false, Bool.not_true, Bool.not_false, Bool.not_not, fSignL, h1, h2, sgn]
    rfl
  · by_cases h2 : i < 0
    · simp (config := { maxDischargeDepth := 20 }) only [runFn, denS, den, denL, List.map, List.replicate, List.length_cons, List.length_nil, R.bind, R.of, R.way, D.tr, D.truth, getV, getO, ioOk, argsOf, afterCall, putIo, Option.isSome, Option.map, Option.bind, bindT, List.set, endOf, List.cons_append, List.nil_append, List.getElem?_cons_zero, List.getElem?_cons_succ, mul_L, add_L, sub_L, L.mul, L.sub, L.add, x_lst, x_tup, x_fz, c_lt, c_le, c_gt, c_ge, c_eq, c_ne, c_eqB, c_neB, c_isNI, c_isNB, p_int, p_abs, p_isInt, p_isIntB, p_isBool, p_isBoolB, p_isTup, p_isLst, p_isLstT, p_isSeqT, p_isSeqL, p_isSeqI, p_isSeqB, p_isStrI, p_isStrB, Nat.reduceAdd, Nat.reduceSub, decide_true, decide_false, Bool.not_true, Bool.not_false, Bool.not_not, fSignL, h1, h2, sgn]
      rfl
    · simp (config := { maxDischargeDepth := 20 }) only [runFn, denS, den, denL, List.map, List.replicate, List.length_cons, List.length_nil, R.bind, R.of, R.way, D.tr, D.truth, getV, getO, ioOk, argsOf, afterCall, putIo, Option.isSome, Option.map, Option.bind, bindT, List.set, endOf, List.cons_append, List.nil_append, List.getElem?_cons_zero, List.getElem?_cons_succ, mul_L, add_L, sub_L, L.mul, L.sub, L.add, x_lst, x_tup, x_fz, c_lt, c_le, c_gt, c_ge, c_eq, c_ne, c_eqB, c_neB, c_isNI, c_isNB, p_int, p_abs, p_isInt, p_isIntB, p_isBool, p_isBoolB, p_isTup, p_isLst, p_isLstT, p_isSeqT, p_isSeqL, p_isSeqI, p_isSeqB, p_isStrI, p_isStrB, Nat.reduceAdd, Nat.reduceSub, decide_true, decide_false, Bool.not_true, Bool.not_false, Bool.not_not, fSignL, h1, h2, sgn]
      rfl
theorem run_gcd {a b : Int} (hf : b.natAbs < C.fuel) : runFn C fGcd [.val (.int a), .val (.int b)] = .ok (.int (gcdI a b)) [] := by
  have q := gcd_loop (c := den C (.cmp .ne (.var 1) (.lit (.int 0)))) (b := denS C (.cons (.par2 0 1 (.var 1) (.bin .mod (.var 0) (.var 1))) .nil))
    (fun x y => by simp (config := { maxDischargeDepth := 20 }) only [runFn, denS, den, denL, List.map, List.replicate, List.length_cons, List.length_nil, R.bind, R.of, R.way, D.tr, D.truth, getV, getO, ioOk, argsOf, afterCall, putIo, Option.isSome, Option.map, Option.bind, bindT, List.set, endOf, List.cons_append, List.nil_append, List.getElem?_cons_zero, List.getElem?_cons_succ, mul_L, add_L, sub_L, L.mul, L.sub, L.add, x_lst, x_tup, x_fz, c_lt, c_le, c_gt, c_ge, c_eq, c_ne, c_eqB, c_neB, c_isNI, c_isNB, p_int, p_abs, p_isInt, p_isIntB, p_isBool, p_isBoolB, p_isTup, p_isLst, p_isLstT, p_isSeqT, p_isSeqL, p_isSeqI, p_isSeqB, p_isStrI, p_isStrB, Nat.reduceAdd, Nat.reduceSub, decide_true, decide_false, Bool.not_true, Bool.not_false, Bool.not_not]) (fun x y h => by simp (config := { maxDischargeDepth := 20 }) only [runFn, denS, den, denL, List.map, List.replicate, List.length_cons, List.length_nil, R.bind, R.of, R.way, D.tr, D.truth, getV, getO, ioOk, argsOf, afterCall, putIo, Option.isSome, Option.map, Option.bind, bindT, List.set, endOf, List.cons_append, List.nil_append, List.getElem?_cons_zero, List.getElem?_cons_succ, mul_L, add_L, sub_L, L.mul, L.sub, L.add, x_lst, x_tup, x_fz, c_lt, c_le, c_gt, c_ge, c_eq, c_ne, c_eqB, c_neB, c_isNI, c_isNB, p_int, p_abs, p_isInt, p_isIntB, p_isBool, p_isBoolB, p_isTup, p_isLst, p_isLstT, p_isSeqT, p_isSeqL, p_isSeqI, p_isSeqB, p_isStrI, p_isStrB, Nat.reduceAdd, Nat.reduceSub, decide_true, decide_false, Bool.not_true, Bool.not_false, Bool.not_not, fmod_L h]) C.fuel a.natAbs b.natAbs hf
  simp (config := { maxDischargeDepth := 20 }) only [runFn, denS, den, denL, List.map, List.replicate, List.length_cons, List.length_nil, R.bind, R.of, R.way, D.tr, D.truth, getV, getO, ioOk, argsOf, afterCall, putIo, Option.isSome, Option.map, Option.bind, bindT, List.set, endOf, List.cons_append, List.nil_append, List.getElem?_cons_zero, List.getElem?_cons_succ, mul_L, add_L, sub_L, L.mul, L.sub, L.add, x_lst, x_tup, x_fz, c_lt, c_le, c_gt, c_ge, c_eq, c_ne, c_eqB, c_neB, c_isNI, c_isNB, p_int, p_abs, p_isInt, p_isIntB, p_isBool, p_isBoolB, p_isTup, p_isLst, p_isLstT, p_isSeqT, p_isSeqL, p_isSeqI, p_isSeqB, p_isStrI, p_isStrB, Nat.reduceAdd, Nat.reduceSub, decide_true, decide_false, Bool.not_true, Bool.not_false, Bool.not_not] at q
  simp (config := { maxDischargeDepth := 20 }) only [runFn, denS, den, denL, List.map, List.replicate, List.length_cons, List.length_nil, R.bind, R.of, R.way, D.tr, D.truth, getV, getO, ioOk, argsOf, afterCall, putIo, Option.isSome, Option.map, Option.bind, bindT, List.set, endOf, List.cons_append, List.nil_append, List.getElem?_cons_zero, List.getElem?_cons_succ, mul_L, add_L, sub_L, L.mul, L.sub, L.add, x_lst, x_tup, x_fz, c_lt, c_le, c_gt, c_ge, c_eq, c_ne, c_eqB, c_neB, c_isNI, c_isNB, p_int, p_abs, p_isInt, p_isIntB, p_isBool, p_isBoolB, p_isTup, p_isLst, p_isLstT, p_isSeqT, p_isSeqL, p_isSeqI, p_isSeqB, p_isStrI, p_isStrB, Nat.reduceAdd, Nat.reduceSub, decide_true, decide_false, Bool.not_true, Bool.not_false, Bool.not_not, fGcd, abs_nat, gcdI, q]
theorem run_gcdL {a b : Int} (hf : b.natAbs < C.fuel) : runFn C fGcdL [.val (.int a), .val (.int b)] = .ok (.int (gcdI a b)) [] := by
  have q := gcd_loop (c := den C (.cmp .ne (.var 1) (.lit (.int 0)))) (b := denS C (.cons (.par2 0 1 (.var 1) (.bin .mod (.prim .int (.cons (.var 0) .nil)) (.var 1))) .nil))
    (fun x y => by simp (config := { maxDischargeDepth := 20 }) only [runFn, denS, den, denL, List.map, List.replicate, List.length_cons, List.length_nil, R.bind, R.of, R.way, D.tr, D.truth, getV, getO, ioOk, argsOf, afterCall, putIo, Option.isSome, Option.map, Option.bind, bindT, List.set, endOf, List.cons_append, List.nil_append, List.getElem?_cons_zero, List.getElem?_cons_succ, mul_L, add_L, sub_L, L.mul, L.sub, L.add, x_lst, x_tup, x_fz, c_lt, c_le, c_gt, c_ge, c_eq, c_ne, c_eqB, c_neB, c_isNI, c_isNB, p_int, p_abs, p_isInt, p_isIntB, p_isBool, p_isBoolB, p_isTup, p_isLst, p_isLstT, p_isSeqT, p_isSeqL, p_isSeqI, p_isSeqB, p_isStrI, p_isStrB, Nat.reduceAdd, Nat.reduceSub, decide_true, decide_false, Bool.not_true, Bool.not_false, Bool.not_not]) (fun x y h => by simp (config := { maxDischargeDepth := 20 }) only [runFn, denS, den, denL, List.map, List.replicate, List.length_cons, List.length_nil, R.bind, R.of, R.way, D.tr, D.truth, getV, getO, ioOk, argsOf, afterCall, putIo, Option.isSome, Option.map, Option.bind, bindT, List.set, endOf, List.cons_append, List.nil_append, List.getElem?_cons_zero, List.getElem?_cons_succ, mul_L, add_L, sub_L, L.mul, L.sub, L.add, x_lst, x_tup, x_fz, c_lt, c_le, c_gt, c_ge, c_eq, c_ne, c_eqB, c_neB, c_isNI, c_isNB, p_int, p_abs, p_isInt, p_isIntB, p_isBool, p_isBoolB, p_isTup, p_isLst, p_isLstT, p_isSeqT, p_isSeqL, p_isSeqI, p_isSeqB, p_isStrI, p_isStrB, Nat.reduceAdd, Nat.reduceSub, decide_true, decide_false, Bool.not_true, Bool.not_false, Bool.not_not, fmod_L h]) C.fuel a.natAbs b.natAbs hf
  simp (config := { maxDischargeDepth := 20 }) only [runFn, denS, den, denL, List.map, List.replicate, List.length_cons, List.length_nil, R.bind, R.of, R.way, D.tr, D.truth, getV, getO, ioOk, argsOf, afterCall, putIo, Option.isSome, Option.map, Option.bind, bindT, List.set, endOf, List.cons_append, List.nil_append, List.getElem?_cons_zero, List.getElem?_cons_succ, mul_L, add_L, sub_L, L.mul, L.sub, L.add, x_lst, x_tup, x_fz, c_lt, c_le, c_gt, c_ge, c_eq, c_ne, c_eqB, c_neB, c_isNI, c_isNB, p_int, p_abs, p_isInt, p_isIntB, p_isBool, p_isBoolB, p_isTup, p_isLst, p_isLstT, p_isSeqT, p_isSeqL, p_isSeqI, p_isSeqB, p_isStrI, p_isStrB, Nat.reduceAdd, Nat.reduceSub, decide_true, decide_false, Bool.not_true, Bool.not_false, Bool.not_not] at q
  simp (config := { maxDischargeDepth := 20 }) only [runFn, denS, den, denL, List.map, List.replicate, List.length_cons, List.length_nil, R.bind, R.of, R.way, D.tr, D.truth, getV, getO, ioOk, argsOf, afterCall, putIo, Option.isSome, Option.map, Option.bind, bindT, List.set, endOf, List.cons_append, List.nil_append, List.getElem?_cons_zero, List.getElem?_cons_succ, mul_L, add_L, sub_L, L.mul, L.sub, L.add, x_lst, x_tup, x_fz, c_lt, c_le, c_gt, c_ge, c_eq, c_ne, c_eqB, c_neB, c_isNI, c_isNB, p_int, p_abs, p_isInt, p_isIntB, p_isBool, p_isBoolB, p_isTup, p_isLst, p_isLstT, p_isSeqT, p_isSeqL, p_isSeqI, p_isSeqB, p_isStrI, p_isStrB, Nat.reduceAdd, Nat.reduceSub, decide_true, decide_false, Bool.not_true, Bool.not_false, Bool.not_not, fGcdL, abs_nat, gcdI, q]
theorem run_reduced {a b : Int} (hg : GcdS C g) (h : 0 < b) (l : L 7 b) (hf : b.natAbs < C.fuel) : runFn C (fReduced g) [.val (.int a), .val (.int b)] = .ok (pr (red a b)) [] := by
  have h1 : ¬ b < 0 := by omega
  have h2 := gcdI_pos (a := a) (b := b) (by omega)
  have h3 := gcdI_L (a := a) (b := b) (by omega) l
  have h4 : gcdI a b ≠ 0 := by omega
  simp (config := { maxDischargeDepth := 20 }) only [runFn, denS, den, denL, List.map, List.replicate, List.length_cons, List.length_nil, R.bind, R.of, R.way, D.tr, D.truth, getV, getO, ioOk, argsOf, afterCall, putIo, Option.isSome, Option.map, Option.bind, bindT, List.set, endOf, List.cons_append, List.nil_append, List.getElem?_cons_zero, List.getElem?_cons_succ, mul_L, add_L, sub_L, L.mul, L.sub, L.add, x_lst, x_tup, x_fz, c_lt, c_le, c_gt, c_ge, c_eq, c_ne, c_eqB, c_neB, c_isNI, c_isNB, p_int, p_abs, p_isInt, p_isIntB, p_isBool, p_isBoolB, p_isTup, p_isLst, p_isLstT, p_isSeqT, p_isSeqL, p_isSeqI, p_isSeqB, p_isStrI, p_isStrB, Nat.reduceAdd, Nat.reduceSub, decide_true, decide_false, Bool.not_true, Bool.not_false, Bool.not_not, fReduced, hg a b hf, h1, fdiv_L h4 h3, pr, red, lim2, ↓reduceIte]
theorem run_ratio {a b : Int} (hg : GcdS C g) (h : 0 < b) (l : L 7 b) (hf : b.natAbs < C.fuel) : runFn C (fRatio g) [.val (.int a), .val (.int b)] = .ok (pr (red a b)) [] := by
  have h1 : ¬ b < 0 := by omega
  have h2 := gcdI_pos (a := a) (b := b) (by omega)
  have h3 := gcdI_L (a := a) (b := b) (by omega) l
  have h4 : gcdI a b ≠ 0 := by omega
  simp (config := { maxDischargeDepth := 20 }) only [runFn, denS, den, denL, List.map, List.replicate, List.length_cons, List.length_nil, R.bind, R.of, R.way, D.tr, D.truth, getV, getO, ioOk, argsOf, afterCall, putIo, Option.isSome, Option.map, Option.bind, bindT, List.set, endOf, List.cons_append, List.nil_append, List.getElem?_cons_zero, List.getElem?_cons_succ, mul_L, add_L, sub_L, L.mul, L.sub, L.add, x_lst, x_tup, x_fz, c_lt, c_le, c_gt, c_ge, c_eq, c_ne, c_eqB, c_neB, c_isNI, c_isNB, p_int, p_abs, p_isInt, p_isIntB, p_isBool, p_isBoolB, p_isTup, p_isLst, p_isLstT, p_isSeqT, p_isSeqL, p_isSeqI, p_isSeqB, p_isStrI, p_isStrB, Nat.reduceAdd, Nat.reduceSub, decide_true, decide_false, Bool.not_true, Bool.not_false, Bool.not_not, fRatio, hg a b hf, h1, fdiv_L h4 h3, pr, red, lim2, ↓reduceIte]
theorem run_low {x y w : Int} (hg : GcdS C g) (h : 0 < w) (l : L 7 w) (hy : y.natAbs < C.fuel) (hf : w.natAbs < C.fuel) : runFn C (fLow g) [.val (.int x), .val (.int y), .val (.int w)] = .ok (low x y w).d [] := by
  have h1 : ¬ w < 0 := by omega
  have h2 := gcdI_pos (a := gcdI x y) (b := w) (by omega)
  have h3 := gcdI_L (a := gcdI x y) (b := w) (by omega) l
  have h4 : gcdI (gcdI x y) w ≠ 0 := by omega
  simp (config := { maxDischargeDepth := 20 }) only [runFn, denS, den, denL, List.map, List.replicate, List.length_cons, List.length_nil, R.bind, R.of, R.way, D.tr, D.truth, getV, getO, ioOk, argsOf, afterCall, putIo, Option.isSome, Option.map, Option.bind, bindT, List.set, endOf, List.cons_append, List.nil_append, List.getElem?_cons_zero, List.getElem?_cons_succ, mul_L, add_L, sub_L, L.mul, L.sub, L.add, x_lst, x_tup, x_fz, c_lt, c_le, c_gt, c_ge, c_eq, c_ne, c_eqB, c_neB, c_isNI, c_isNB, p_int, p_abs, p_isInt, p_isIntB, p_isBool, p_isBoolB, p_isTup, p_isLst, p_isLstT, p_isSeqT, p_isSeqL, p_isSeqI, p_isSeqB, p_isStrI, p_isStrB, Nat.reduceAdd, Nat.reduceSub, decide_true, decide_false, Bool.not_true, Bool.not_false, Bool.not_not, fLow, hg x y hy, hg (gcdI x y) w hf, h1, fdiv_L h4 h3, Pt.d, low, lim3, ↓reduceIte]
theorem run_lowL {x y w : Int} (hg : GcdS C g) (h : 0 < w) (l : L 7 w) (hy : y.natAbs < C.fuel) (hf : w.natAbs < C.fuel) : runFn C (fLowL g) [.val (.int x), .val (.int y), .val (.int w)] = .ok (low x y w).d [] := by
  have h1 : ¬ w < 0 := by omega
  have h2 := gcdI_pos (a := gcdI x y) (b := w) (by omega)
  have h3 := gcdI_L (a := gcdI x y) (b := w) (by omega) l
  have h4 : gcdI (gcdI x y) w ≠ 0 := by omega
  simp (config := { maxDischargeDepth := 20 }) only [runFn, denS, den, denL, List.map, List.replicate, List.length_cons, List.length_nil, R.bind, R.of, R.way, D.tr, D.truth, getV, getO, ioOk, argsOf, afterCall, putIo, Option.isSome, Option.map, Option.bind, bindT, List.set, endOf, List.cons_append, List.nil_append, List.getElem?_cons_zero, List.getElem?_cons_succ, mul_L, add_L, sub_L, L.mul, L.sub, L.add, x_lst, x_tup, x_fz, c_lt, c_le, c_gt, c_ge, c_eq, c_ne, c_eqB, c_neB, c_isNI, c_isNB, p_int, p_abs, p_isInt, p_isIntB, p_isBool, p_isBoolB, p_isTup, p_isLst, p_isLstT, p_isSeqT, p_isSeqL, p_isSeqI, p_isSeqB, p_isStrI, p_isStrB, Nat.reduceAdd, Nat.reduceSub, decide_true, decide_false, Bool.not_true, Bool.not_false, Bool.not_not, fLowL, hg x y hy, hg (gcdI x y) w hf, h1, fdiv_L h4 h3, Pt.d, low, lim3, ↓reduceIte]
theorem run_in {v l m : Int} (h1 : l ≤ v) (h2 : v ≤ m) : runFn C fIn [.val (.int v), .val (.int l), .val (.int m)] = .ok (.bl true) [] := by
  simp (config := { maxDischargeDepth := 20 }) only [runFn, denS, den, denL, List.map, List.replicate, List.length_cons, List.length_nil, R.bind, R.of, R.way, D.tr, D.truth, getV, getO, ioOk, argsOf, afterCall, putIo, Option.isSome, Option.map, Option.bind, bindT, List.set, endOf, List.cons_append, List.nil_append, List.getElem?_cons_zero, List.getElem?_cons_succ, mul_L, add_L, sub_L, L.mul, L.sub, L.add, x_lst, x_tup, x_fz, c_lt, c_le, c_gt, c_ge, c_eq, c_ne, c_eqB, c_neB, c_isNI, c_isNB, p_int, p_abs, p_isInt, p_isIntB, p_isBool, p_isBoolB, p_isTup, p_isLst, p_isLstT, p_isSeqT, p_isSeqL, p_isSeqI, p_isSeqB, p_isStrI, p_isStrB, Nat.reduceAdd, Nat.reduceSub, decide_true, decide_false, Bool.not_true, Bool.not_false, Bool.not_not, fIn, h1, h2]
theorem run_signed {s : List Int} {cs : List D} {m : Int} (ht : TakS C t) (hs : s.length ≤ 63) (hr : Row s cs) (h0 : 0 ≤ m) (hm : m < 1000000000) : ∃ v cs', runFn C (fSigned t) [.own cs, .val (.int m)] = .ok (.int v) cs' ∧ Row s cs' ∧ -m ≤ v ∧ v ≤ m := by
  obtain ⟨v, cs', e, r, h1, h2⟩ := ht s cs (2 * m + 1) hs hr (by omega) (by omega)
  refine ⟨v - m, cs', ?_, r, by omega, by omega⟩
  have l1 : L 12 2 := S64.of (by decide) 12
  have l2 : L 12 m := S64.of (by omega) 12
  simp (config := { maxDischargeDepth := 20 }) only [runFn, denS, den, denL, List.map, List.replicate, List.length_cons, List.length_nil, R.bind, R.of, R.way, D.tr, D.truth, getV, getO, ioOk, argsOf, afterCall, putIo, Option.isSome, Option.map, Option.bind, bindT, List.set, endOf, List.cons_append, List.nil_append, List.getElem?_cons_zero, List.getElem?_cons_succ, mul_L, add_L, sub_L, L.mul, L.sub, L.add, x_lst, x_tup, x_fz, c_lt, c_le, c_gt, c_ge, c_eq, c_ne, c_eqB, c_neB, c_isNI, c_isNB, p_int, p_abs, p_isInt, p_isIntB, p_isBool, p_isBoolB, p_isTup, p_isLst, p_isLstT, p_isSeqT, p_isSeqL, p_isSeqI, p_isSeqB, p_isStrI, p_isStrB, Nat.reduceAdd, Nat.reduceSub, decide_true, decide_false, Bool.not_true, Bool.not_false, Bool.not_not, fSigned, l1, l2, e]
theorem run_pick {s : List Int} {cs xs : List D} (ht : TakS C t) (hs : s.length ≤ 63) (hr : Row s cs) (h0 : 0 < xs.length) (hm : xs.length < 1000) : ∃ (j : Nat) (h : j < xs.length) (cs' : List D), runFn C (fPick t) [.own cs, .val (.lst xs)] = .ok xs[j] cs' ∧ Row s cs' := by
  obtain ⟨v, cs', e, r, h1, h2⟩ := ht s cs (xs.length : Int) hs hr (by omega) (by omega)
  obtain ⟨d, hx, hd⟩ := at_all h1 h2
  have hj : v.toNat < xs.length := by omega
  refine ⟨v.toNat, hj, cs', ?_, r⟩
  have hl : prim .len [.lst xs] = some (.int (xs.length : Int)) := if_pos (Nat.le_trans (Nat.le_of_lt hm) (by decide))
  rw [List.getElem?_eq_getElem hj] at hd
  cases hd
  simp (config := { maxDischargeDepth := 20 }) only [runFn, denS, den, denL, List.map, List.replicate, List.length_cons, List.length_nil, R.bind, R.of, R.way, D.tr, D.truth, getV, getO, ioOk, argsOf, afterCall, putIo, Option.isSome, Option.map, Option.bind, bindT, List.set, endOf, List.cons_append, List.nil_append, List.getElem?_cons_zero, List.getElem?_cons_succ, mul_L, add_L, sub_L, L.mul, L.sub, L.add, x_lst, x_tup, x_fz, c_lt, c_le, c_gt, c_ge, c_eq, c_ne, c_eqB, c_neB, c_isNI, c_isNB, p_int, p_abs, p_isInt, p_isIntB, p_isBool, p_isBoolB, p_isTup, p_isLst, p_isLstT, p_isSeqT, p_isSeqL, p_isSeqI, p_isSeqB, p_isStrI, p_isStrB, Nat.reduceAdd, Nat.reduceSub, decide_true, decide_false, Bool.not_true, Bool.not_false, Bool.not_not, fPick, hl, hx, e]
end Ev
set_option Elab.async false
set_option linter.all false
set_option maxRecDepth 100000
set_option maxHeartbeats 4000000
set_option autoImplicit false
/-! Pl4: lowest terms, sizes, ratios, points drawn. -/
namespace Ev
/-! ### lowest terms -/
theorem div_back {a g : Int} (h : g ∣ a) : a = g * (a.fdiv g) := by
  rw [Int.fdiv_eq_ediv_of_dvd h]
  exact (Int.mul_ediv_cancel' h).symm
theorem gcdI_dvd_l (a b : Int) : gcdI a b ∣ a := Int.dvd_natAbs.mp (Int.natCast_dvd_natCast.mpr (Nat.gcd_dvd_left _ _))
theorem gcdI_dvd_r (a b : Int) : gcdI a b ∣ b := Int.dvd_natAbs.mp (Int.natCast_dvd_natCast.mpr (Nat.gcd_dvd_right _ _))
theorem gcdI_mul {g a b : Int} (h : 0 < g) : gcdI (g * a) (g * b) = g * gcdI a b := by
  unfold gcdI
  rw [Int.natAbs_mul, Int.natAbs_mul, Nat.gcd_mul_left]
  rw [Int.natCast_mul]
  congr 1
  omega
theorem pos_of {g q : Int} (h : 0 < g) (k : 0 < g * q) : 0 < q := by
  rcases Int.lt_or_le 0 q with z | z
  · exact z
  · have := Int.mul_le_mul_of_nonneg_left z (Int.le_of_lt h)
    rw [Int.mul_zero] at this
    omega
theorem red_spec {a b : Int} (h : 0 < b) : ∃ g : Int, 0 < g ∧ a = g * (red a b).1 ∧ b = g * (red a b).2 ∧ 0 < (red a b).2 := by
  have h1 := gcdI_pos (a := a) (b := b) (by omega)
  have e1 := div_back (gcdI_dvd_l a b)
  have e2 := div_back (gcdI_dvd_r a b)
  refine ⟨gcdI a b, h1, e1, e2, ?_⟩
  show 0 < b.fdiv (gcdI a b)
  rw [e2] at h
  exact pos_of h1 h

theorem low_spec {x y w : Int} (h : 0 < w) : ∃ g : Int, 0 < g ∧ x = g * (low x y w).x ∧ y = g * (low x y w).y ∧ w = g * (low x y w).w ∧ 0 < (low x y w).w ∧ gcdI (gcdI (low x y w).x (low x y w).y) (low x y w).w = 1 := by
  have h1 := gcdI_pos (a := gcdI x y) (b := w) (by omega)
  have d1 : gcdI (gcdI x y) w ∣ x := Int.dvd_trans (gcdI_dvd_l _ _) (gcdI_dvd_l x y)
  have d2 : gcdI (gcdI x y) w ∣ y := Int.dvd_trans (gcdI_dvd_l _ _) (gcdI_dvd_r x y)
  have e1 := div_back d1
  have e2 := div_back d2
  have e3 := div_back (gcdI_dvd_r (gcdI x y) w)
  refine ⟨gcdI (gcdI x y) w, h1, e1, e2, e3, ?_, ?_⟩
  · show 0 < w.fdiv (gcdI (gcdI x y) w)
    rw [e3] at h
    exact pos_of h1 h
  · show gcdI (gcdI (x.fdiv (gcdI (gcdI x y) w)) (y.fdiv (gcdI (gcdI x y) w))) (w.fdiv (gcdI (gcdI x y) w)) = 1
    have q1 := gcdI_mul (a := x.fdiv (gcdI (gcdI x y) w)) (b := y.fdiv (gcdI (gcdI x y) w)) h1
    rw [← e1, ← e2] at q1
    have q2 := gcdI_mul (a := gcdI (x.fdiv (gcdI (gcdI x y) w)) (y.fdiv (gcdI (gcdI x y) w))) (b := w.fdiv (gcdI (gcdI x y) w)) h1
    rw [← e3, ← q1] at q2
    generalize gcdI (gcdI (x.fdiv (gcdI (gcdI x y) w)) (y.fdiv (gcdI (gcdI x y) w))) (w.fdiv (gcdI (gcdI x y) w)) = z at q2 ⊢
    generalize gcdI (gcdI x y) w = g at q2 h1
    have : g * 1 = g * z := by omega
    exact (Int.eq_of_mul_eq_mul_left (by omega) this).symm
/-! ### sizes -/
def Nb (B : Nat) (i : Int) : Prop := i.natAbs ≤ B
theorem Nb.mul {A B : Nat} {i j : Int} (h : Nb A i) (k : Nb B j) : Nb (A * B) (i * j) := by
  unfold Nb at *
  rw [Int.natAbs_mul]
  exact Nat.mul_le_mul h k
theorem Nb.add {A B : Nat} {i j : Int} (h : Nb A i) (k : Nb B j) : Nb (A + B) (i + j) := by
  unfold Nb at *
  omega
theorem Nb.sub {A B : Nat} {i j : Int} (h : Nb A i) (k : Nb B j) : Nb (A + B) (i - j) := by
  unfold Nb at *
  omega
theorem Nb.le {A B : Nat} {i : Int} (h : Nb A i) (k : A ≤ B) : Nb B i := Nat.le_trans h k
theorem Nb.S {A : Nat} {i : Int} (h : Nb A i) (k : A < 2 ^ 64) : S64 i := S64.of (Nat.lt_of_le_of_lt h k)
theorem Nb.part {A : Nat} {g i : Int} (h : 0 < g) (k : Nb A (g * i)) : Nb A i := by
  unfold Nb at *
  rw [Int.natAbs_mul] at k
  exact Nat.le_trans (Nat.le_mul_of_pos_left _ (by omega)) k
theorem red_nb {a b : Int} {A B : Nat} (h : 0 < b) (ha : Nb A a) (hb : Nb B b) : Nb A (red a b).1 ∧ Nb B (red a b).2 ∧ 0 < (red a b).2 := by
  obtain ⟨g, hg, e1, e2, p⟩ := red_spec (a := a) h
  exact ⟨.part hg (by rw [← e1]; exact ha), .part hg (by rw [← e2]; exact hb), p⟩
/-- a point of the law's own -/
structure Pn (A B : Nat) (p : Pt) : Prop where
  x : Nb A p.x
  y : Nb A p.y
  w : Nb B p.w
  pw : 0 < p.w
  g : gcdI (gcdI p.x p.y) p.w = 1
theorem low_pn {x y w : Int} {A B : Nat} (h : 0 < w) (hx : Nb A x) (hy : Nb A y) (hw : Nb B w) : Pn A B (low x y w) := by
  obtain ⟨g, hg, e1, e2, e3, p, q⟩ := low_spec (x := x) (y := y) h
  exact ⟨.part hg (by rw [← e1]; exact hx), .part hg (by rw [← e2]; exact hy), .part hg (by rw [← e3]; exact hw), p, q⟩
/-! ### ratios -/
theorem lt_fu {fu : Nat} {a b : Int} (h : S64 a) (k : S64 b) (hfu : 2 ^ 199 < fu) : (a * b).natAbs < fu := by
  have q := (h 0).mul (k 0)
  unfold L at q
  refine Nat.lt_trans (Nat.lt_of_lt_of_le q ?_) hfu
  exact Nat.pow_le_pow_right (by decide) (by decide)
def tms (p q : Int × Int) : Int × Int := red (p.1 * q.1) (p.2 * q.2)
def pls (p q : Int × Int) : Int × Int := red (p.1 * q.2 + q.1 * p.2) (p.2 * q.2)
structure Rt (A B : Nat) (p : Int × Int) : Prop where
  n : Nb A p.1
  d : Nb B p.2
  pd : 0 < p.2
theorem tms_rt {p q : Int × Int} {A B A' B' : Nat} (hp : Rt A B p) (hq : Rt A' B' q) : Rt (A * A') (B * B') (tms p q) := by
  obtain ⟨h1, h2, h3⟩ := red_nb (Int.mul_pos hp.pd hq.pd) (hp.n.mul hq.n) (hp.d.mul hq.d)
  exact ⟨h1, h2, h3⟩
theorem pls_rt {p q : Int × Int} {A B A' B' : Nat} (hp : Rt A B p) (hq : Rt A' B' q) : Rt (A * B' + A' * B) (B * B') (pls p q) := by
  obtain ⟨h1, h2, h3⟩ := red_nb (Int.mul_pos hp.pd hq.pd) ((hp.n.mul hq.d).add (hq.n.mul hp.d)) (hp.d.mul hq.d)
  exact ⟨h1, h2, h3⟩
/-- r stands for N over D -/
def V (r : Int × Int) (N D : Int) : Prop := r.1 * D = r.2 * N
theorem red_v {a b : Int} (h : 0 < b) : V (red a b) a b := by
  obtain ⟨g, hg, e1, e2, p⟩ := red_spec (a := a) h
  unfold V
  generalize red a b = r at *
  rw [e1, e2]
  grind
theorem red_V {a b N D : Int} (h : 0 < b) (e : a * D = b * N) : V (red a b) N D := by
  obtain ⟨g, hg, e1, e2, p⟩ := red_spec (a := a) h
  unfold V
  generalize red a b = r at *
  rw [e1, e2] at e
  have : g * (r.1 * D) = g * (r.2 * N) := by grind
  exact Int.eq_of_mul_eq_mul_left (by omega) this
theorem tms_V {p q : Int × Int} {N D N' D' : Int} (hp : V p N D) (hq : V q N' D') (h1 : 0 < p.2) (h2 : 0 < q.2) : V (tms p q) (N * N') (D * D') := by
  unfold V at hp hq
  refine red_V (Int.mul_pos h1 h2) ?_
  have : p.1 * q.1 * (D * D') = (p.1 * D) * (q.1 * D') := by grind
  rw [this, hp, hq]
  grind
theorem pls_V {p q : Int × Int} {N D N' D' : Int} (hp : V p N D) (hq : V q N' D') (h1 : 0 < p.2) (h2 : 0 < q.2) : V (pls p q) (N * D' + N' * D) (D * D') := by
  unfold V at hp hq
  refine red_V (Int.mul_pos h1 h2) ?_
  have : (p.1 * q.2 + q.1 * p.2) * (D * D') = (p.1 * D) * (q.2 * D') + (q.1 * D') * (p.2 * D) := by grind
  rw [this, hp, hq]
  grind
theorem red_zero {b : Int} (h : 0 < b) : red 0 b = (0, 1) := by
  unfold red
  have e : gcdI 0 b = b := by
    unfold gcdI
    rw [Int.natAbs_zero, Nat.gcd_zero_left]
    omega
  rw [e, Int.zero_fdiv, Int.fdiv_self (by omega)]
/-! ### the defs of ratios and points -/
def fTimes (r : Nat) : Fn := ⟨2, 2, false, (.cons (.ret (.call r none (.cons (.bin .mul (.ix (.var 0) (.lit (.int 0))) (.ix (.var 1) (.lit (.int 0)))) (.cons (.bin .mul (.ix (.var 0) (.lit (.int 1))) (.ix (.var 1) (.lit (.int 1)))) .nil)))) .nil)⟩
def fPlus (r : Nat) : Fn := ⟨2, 2, false, (.cons (.ret (.call r none (.cons (.bin .add (.bin .mul (.ix (.var 0) (.lit (.int 0))) (.ix (.var 1) (.lit (.int 1)))) (.bin .mul (.ix (.var 1) (.lit (.int 0))) (.ix (.var 0) (.lit (.int 1))))) (.cons (.bin .mul (.ix (.var 0) (.lit (.int 1))) (.ix (.var 1) (.lit (.int 1)))) .nil)))) .nil)⟩
def fMinus (r : Nat) : Fn := ⟨2, 2, false, (.cons (.ret (.call r none (.cons (.bin .sub (.bin .mul (.ix (.var 0) (.lit (.int 0))) (.ix (.var 1) (.lit (.int 1)))) (.bin .mul (.ix (.var 1) (.lit (.int 0))) (.ix (.var 0) (.lit (.int 1))))) (.cons (.bin .mul (.ix (.var 0) (.lit (.int 1))) (.ix (.var 1) (.lit (.int 1)))) .nil)))) .nil)⟩
def mns (p q : Int × Int) : Int × Int := red (p.1 * q.2 - q.1 * p.2) (p.2 * q.2)
section
variable {C : Ctx} {r : Nat} {p q : Int × Int} {A B A' B' : Nat}
theorem mns_rt (hp : Rt A B p) (hq : Rt A' B' q) : Rt (A * B' + A' * B) (B * B') (mns p q) := by
  obtain ⟨h1, h2, h3⟩ := red_nb (Int.mul_pos hp.pd hq.pd) ((hp.n.mul hq.d).sub (hq.n.mul hp.d)) (hp.d.mul hq.d)
  exact ⟨h1, h2, h3⟩
theorem mns_V {N D N' D' : Int} (hp : V p N D) (hq : V q N' D') (h1 : 0 < p.2) (h2 : 0 < q.2) : V (mns p q) (N * D' - N' * D) (D * D') := by
  unfold V at hp hq
  refine red_V (Int.mul_pos h1 h2) ?_
  have : (p.1 * q.2 - q.1 * p.2) * (D * D') = (p.1 * D) * (q.2 * D') - (q.1 * D') * (p.2 * D) := by grind
  rw [this, hp, hq]
  grind
theorem run_times (hr : RatS C r) (hp : Rt A B p) (hq : Rt A' B' q) (b1 : A < 2 ^ 64) (b2 : B < 2 ^ 64) (b3 : A' < 2 ^ 64) (b4 : B' < 2 ^ 64) (hfu : 2 ^ 199 < C.fuel) : runFn C (fTimes r) [.val (pr p), .val (pr q)] = .ok (pr (tms p q)) [] := by
  have l1 := hp.n.S b1; have l2 := hp.d.S b2
  have l3 := hq.n.S b3; have l4 := hq.d.S b4
  have hf := lt_fu l2 l4 hfu
  unfold S64 at l1 l2 l3 l4
  have e := hr (p.1 * q.1) (p.2 * q.2) (Int.mul_pos hp.pd hq.pd) ((l2 6).mul (l4 6)) hf
  simp (config := { maxDischargeDepth := 20 }) only [runFn, denS, den, denL, List.map, List.replicate, List.length_cons, List.length_nil, R.bind, R.of, R.way, D.tr, D.truth, getV, getO, ioOk, argsOf, afterCall, putIo, Option.isSome, Option.map, Option.bind, bindT, List.set, endOf, List.cons_append, List.nil_append, List.getElem?_cons_zero, List.getElem?_cons_succ, mul_L, add_L, sub_L, L.mul, L.sub, L.add, x_lst, x_tup, x_fz, c_lt, c_le, c_gt, c_ge, c_eq, c_ne, c_eqB, c_neB, c_isNI, c_isNB, p_int, p_abs, p_isInt, p_isIntB, p_isBool, p_isBoolB, p_isTup, p_isLst, p_isLstT, p_isSeqT, p_isSeqL, p_isSeqI, p_isSeqB, p_isStrI, p_isStrB, Nat.reduceAdd, Nat.reduceSub, decide_true, decide_false, Bool.not_true, Bool.not_false, Bool.not_not, fTimes, pi0, pi1, l1, l2, l3, l4, e, tms]
theorem run_plus (hr : RatS C r) (hp : Rt A B p) (hq : Rt A' B' q) (b1 : A < 2 ^ 64) (b2 : B < 2 ^ 64) (b3 : A' < 2 ^ 64) (b4 : B' < 2 ^ 64) (hfu : 2 ^ 199 < C.fuel) : runFn C (fPlus r) [.val (pr p), .val (pr q)] = .ok (pr (pls p q)) [] := by
  have l1 := hp.n.S b1; have l2 := hp.d.S b2
  have l3 := hq.n.S b3; have l4 := hq.d.S b4
  have hf := lt_fu l2 l4 hfu
  unfold S64 at l1 l2 l3 l4
  have e := hr (p.1 * q.2 + q.1 * p.2) (p.2 * q.2) (Int.mul_pos hp.pd hq.pd) ((l2 6).mul (l4 6)) hf
  simp (config := { maxDischargeDepth := 20 }) only [runFn, denS, den, denL, List.map, List.replicate, List.length_cons, List.length_nil, R.bind, R.of, R.way, D.tr, D.truth, getV, getO, ioOk, argsOf, afterCall, putIo, Option.isSome, Option.map, Option.bind, bindT, List.set, endOf, List.cons_append, List.nil_append, List.getElem?_cons_zero, List.getElem?_cons_succ, mul_L, add_L, sub_L, L.mul, L.sub, L.add, x_lst, x_tup, x_fz, c_lt, c_le, c_gt, c_ge, c_eq, c_ne, c_eqB, c_neB, c_isNI, c_isNB, p_int, p_abs, p_isInt, p_isIntB, p_isBool, p_isBoolB, p_isTup, p_isLst, p_isLstT, p_isSeqT, p_isSeqL, p_isSeqI, p_isSeqB, p_isStrI, p_isStrB, Nat.reduceAdd, Nat.reduceSub, decide_true, decide_false, Bool.not_true, Bool.not_false, Bool.not_not, fPlus, pi0, pi1, l1, l2, l3, l4, e, pls]
theorem run_minus (hr : RatS C r) (hp : Rt A B p) (hq : Rt A' B' q) (b1 : A < 2 ^ 64) (b2 : B < 2 ^ 64) (b3 : A' < 2 ^ 64) (b4 : B' < 2 ^ 64) (hfu : 2 ^ 199 < C.fuel) : runFn C (fMinus r) [.val (pr p), .val (pr q)] = .ok (pr (mns p q)) [] := by
  have l1 := hp.n.S b1; have l2 := hp.d.S b2
  have l3 := hq.n.S b3; have l4 := hq.d.S b4
  have hf := lt_fu l2 l4 hfu
  unfold S64 at l1 l2 l3 l4
  have e := hr (p.1 * q.2 - q.1 * p.2) (p.2 * q.2) (Int.mul_pos hp.pd hq.pd) ((l2 6).mul (l4 6)) hf
  simp (config := { maxDischargeDepth := 20 }) only [runFn, denS, den, denL, List.map, List.replicate, List.length_cons, List.length_nil, R.bind, R.of, R.way, D.tr, D.truth, getV, getO, ioOk, argsOf, afterCall, putIo, Option.isSome, Option.map, Option.bind, bindT, List.set, endOf, List.cons_append, List.nil_append, List.getElem?_cons_zero, List.getElem?_cons_succ, mul_L, add_L, sub_L, L.mul, L.sub, L.add, x_lst, x_tup, x_fz, c_lt, c_le, c_gt, c_ge, c_eq, c_ne, c_eqB, c_neB, c_isNI, c_isNB, p_int, p_abs, p_isInt, p_isIntB, p_isBool, p_isBoolB, p_isTup, p_isLst, p_isLstT, p_isSeqT, p_isSeqL, p_isSeqI, p_isSeqB, p_isStrI, p_isStrB, Nat.reduceAdd, Nat.reduceSub, decide_true, decide_false, Bool.not_true, Bool.not_false, Bool.not_not, fMinus, pi0, pi1, l1, l2, l3, l4, e, mns]
def fPoint (tk pk lo sg : Nat) : Fn := ⟨2, 3, true, (.cons (.asg (.nm 2) (.call pk (some 0) (.cons (.lst (.cons (.lit (.int 1)) (.cons (.lit (.int 1)) (.cons (.lit (.int 1)) (.cons (.lit (.int 2)) (.cons (.lit (.int 3)) (.cons (.bin .add (.lit (.int 1)) (.call tk (some 0) (.cons (.lit (.int 9)) .nil))) .nil))))))) .nil))) (.cons (.ret (.call lo none (.cons (.call sg (some 0) (.cons (.bin .mul (.var 1) (.var 2)) .nil)) (.cons (.call sg (some 0) (.cons (.bin .mul (.var 1) (.var 2)) .nil)) (.cons (.var 2) .nil))))) .nil))⟩
theorem run_point {tk pk lo sg : Nat} {s : List Int} {cs : List D} {z : Int} {Z : Nat} (ht : TakS C tk) (hp : PicS C pk) (hl : LowS C lo) (hg : SigS C sg) (hs : s.length ≤ 63) (hr : Row s cs) (z0 : 0 ≤ z) (z1 : z ≤ Z) (hZ : Z < 1000) (hfu : 1000000000000 < C.fuel) :
    ∃ p cs', runFn C (fPoint tk pk lo sg) [.own cs, .val (.int z)] = .ok p.d cs' ∧ Row s cs' ∧ Pn (9 * Z) 9 p := by
  obtain ⟨v1, cs1, e1, r1, a1, b1⟩ := ht s cs 9 hs hr (by decide) (by decide)
  obtain ⟨j, hj, cs2, e2, r2⟩ := hp s cs1 [.int 1, .int 1, .int 1, .int 2, .int 3, .int (1 + v1)] hs r1 (by simp) (by simp)
  obtain ⟨w, ew, hw1, hw9⟩ : ∃ w : Int, [D.int 1, .int 1, .int 1, .int 2, .int 3, .int (1 + v1)][j] = .int w ∧ 1 ≤ w ∧ w ≤ 9 := by
    match j, hj with
    | 0, _ => exact ⟨1, rfl, by omega, by omega⟩
    | 1, _ => exact ⟨1, rfl, by omega, by omega⟩
    | 2, _ => exact ⟨1, rfl, by omega, by omega⟩
    | 3, _ => exact ⟨2, rfl, by omega, by omega⟩
    | 4, _ => exact ⟨3, rfl, by omega, by omega⟩
    | 5, _ => exact ⟨1 + v1, rfl, by omega, by omega⟩
  rw [ew] at e2
  have zw : (z * w).natAbs ≤ Z * 9 := by
    rw [Int.natAbs_mul]
    exact Nat.mul_le_mul (by omega) (by omega)
  have zn : 0 ≤ z * w := Int.mul_nonneg z0 (by omega)
  obtain ⟨x, cs3, e3, r3, x1, x2⟩ := hg s cs2 (z * w) hs r2 zn (by omega)
  obtain ⟨y, cs4, e4, r4, y1, y2⟩ := hg s cs3 (z * w) hs r3 zn (by omega)
  refine ⟨low x y w, cs4, ?_, r4, low_pn (by omega) (show x.natAbs ≤ 9 * Z by omega) (show y.natAbs ≤ 9 * Z by omega) (show w.natAbs ≤ 9 by omega)⟩
  have l1 : L 12 z := S64.of (by omega) 12
  have l2 : L 12 w := S64.of (by omega) 12
  have lw : L 7 w := S64.of (by omega) 7
  have e5 := hl x y w (by omega) lw (by omega) (by omega)
  simp (config := { maxDischargeDepth := 20 }) only [runFn, denS, den, denL, List.map, List.replicate, List.length_cons, List.length_nil, R.bind, R.of, R.way, D.tr, D.truth, getV, getO, ioOk, argsOf, afterCall, putIo, Option.isSome, Option.map, Option.bind, bindT, List.set, endOf, List.cons_append, List.nil_append, List.getElem?_cons_zero, List.getElem?_cons_succ, mul_L, add_L, sub_L, L.mul, L.sub, L.add, x_lst, x_tup, x_fz, c_lt, c_le, c_gt, c_ge, c_eq, c_ne, c_eqB, c_neB, c_isNI, c_isNB, p_int, p_abs, p_isInt, p_isIntB, p_isBool, p_isBoolB, p_isTup, p_isLst, p_isLstT, p_isSeqT, p_isSeqL, p_isSeqI, p_isSeqB, p_isStrI, p_isStrB, Nat.reduceAdd, Nat.reduceSub, decide_true, decide_false, Bool.not_true, Bool.not_false, Bool.not_not, fPoint, l1, l2, e1, e2, e3, e4, lim6, e5, ↓reduceIte]
end
end Ev
set_option Elab.async false
set_option linter.all false
set_option maxRecDepth 100000
set_option maxHeartbeats 4000000
set_option autoImplicit false
/-! Pl5: lowest terms are unique; the defs that judge points and ratios. -/
namespace Ev
theorem red_gcd {a b : Int} (h : 0 < b) : gcdI (red a b).1 (red a b).2 = 1 := by
  have h1 := gcdI_pos (a := a) (b := b) (by omega)
  have e1 := div_back (gcdI_dvd_l a b)
  have e2 := div_back (gcdI_dvd_r a b)
  have q := gcdI_mul (a := a.fdiv (gcdI a b)) (b := b.fdiv (gcdI a b)) h1
  rw [← e1, ← e2] at q
  show gcdI (a.fdiv (gcdI a b)) (b.fdiv (gcdI a b)) = 1
  generalize gcdI (a.fdiv (gcdI a b)) (b.fdiv (gcdI a b)) = z at *
  generalize gcdI a b = g at *
  have : g * 1 = g * z := by omega
  exact (Int.eq_of_mul_eq_mul_left (by omega) this).symm
theorem canon_eq {r s : Int × Int} (h1 : gcdI r.1 r.2 = 1) (h2 : gcdI s.1 s.2 = 1) (p1 : 0 < r.2) (p2 : 0 < s.2) (e : r.1 * s.2 = s.1 * r.2) : r = s := by
  have m1 := gcdI_mul (a := r.1) (b := r.2) p2
  have m2 := gcdI_mul (a := s.1) (b := s.2) p1
  rw [h1] at m1
  rw [h2] at m2
  have f1 : s.2 * r.1 = r.2 * s.1 := by rw [Int.mul_comm, e, Int.mul_comm]
  have f2 : s.2 * r.2 = r.2 * s.2 := Int.mul_comm _ _
  rw [f1, f2, m2] at m1
  have ew : r.2 = s.2 := by omega
  obtain ⟨r1, r2⟩ := r
  obtain ⟨s1, s2⟩ := s
  simp only at *
  subst ew
  rw [Int.eq_of_mul_eq_mul_right (by omega) e]
theorem red_uniq {a b : Int} {r : Int × Int} (h : 0 < b) (h1 : gcdI r.1 r.2 = 1) (p1 : 0 < r.2) (e : a * r.2 = r.1 * b) : red a b = r := by
  obtain ⟨g, hg, e1, e2, p⟩ := red_spec (a := a) h
  refine canon_eq (red_gcd h) h1 p p1 ?_
  generalize red a b = s at *
  rw [e1, e2] at e
  have : g * (s.1 * r.2) = g * (r.1 * s.2) := by grind
  exact Int.eq_of_mul_eq_mul_left (by omega) this
theorem pt_eq {a b : Pt} (ha : 0 < a.w) (hb : 0 < b.w) (ga : gcdI (gcdI a.x a.y) a.w = 1) (gb : gcdI (gcdI b.x b.y) b.w = 1) (e1 : a.x * b.w = b.x * a.w) (e2 : a.y * b.w = b.y * a.w) : a = b := by
  have m1 := gcdI_mul (a := a.x) (b := a.y) hb
  have m2 := gcdI_mul (a := gcdI a.x a.y) (b := a.w) hb
  have m3 := gcdI_mul (a := b.x) (b := b.y) ha
  have m4 := gcdI_mul (a := gcdI b.x b.y) (b := b.w) ha
  rw [ga] at m2
  rw [gb] at m4
  rw [← m1] at m2
  rw [← m3] at m4
  have f1 : b.w * a.x = a.w * b.x := by rw [Int.mul_comm, e1, Int.mul_comm]
  have f2 : b.w * a.y = a.w * b.y := by rw [Int.mul_comm, e2, Int.mul_comm]
  have f3 : b.w * a.w = a.w * b.w := Int.mul_comm _ _
  rw [f1, f2, f3, m4] at m2
  have ew : a.w = b.w := by omega
  obtain ⟨x, y, w⟩ := a
  obtain ⟨x', y', w'⟩ := b
  simp only at *
  subst ew
  rw [Int.eq_of_mul_eq_mul_right (by omega) e1, Int.eq_of_mul_eq_mul_right (by omega) e2]
theorem low_uniq {x y w : Int} {p : Pt} (h : 0 < w) (hp : 0 < p.w) (g : gcdI (gcdI p.x p.y) p.w = 1) (e1 : x * p.w = p.x * w) (e2 : y * p.w = p.y * w) : low x y w = p := by
  obtain ⟨k, hk, k1, k2, k3, k4, k5⟩ := low_spec (x := x) (y := y) h
  refine pt_eq k4 hp k5 g ?_ ?_
  · generalize low x y w = q at *
    rw [k1, k3] at e1
    have : k * (q.x * p.w) = k * (p.x * q.w) := by grind
    exact Int.eq_of_mul_eq_mul_left (by omega) this
  · generalize low x y w = q at *
    rw [k2, k3] at e2
    have : k * (q.y * p.w) = k * (p.y * q.w) := by grind
    exact Int.eq_of_mul_eq_mul_left (by omega) this
/-- a ratio in lowest terms -/
structure Cn (A B : Nat) (r : Int × Int) : Prop extends Rt A B r where
  g : gcdI r.1 r.2 = 1
theorem red_cn {a b : Int} {A B : Nat} (h : 0 < b) (ha : Nb A a) (hb : Nb B b) : Cn A B (red a b) := by
  obtain ⟨h1, h2, h3⟩ := red_nb h ha hb
  exact ⟨⟨h1, h2, h3⟩, red_gcd h⟩
/-- the sign of a ratio is that of what it stands for -/
theorem V_sgn {r : Int × Int} {N D : Int} (h : V r N D) (h1 : 0 < r.2) (h2 : 0 < D) : sgn r.1 = sgn N := by
  unfold V at h
  have q1 := sgn_cases r.1
  have q2 := sgn_cases N
  have m1 : ∀ {p q : Int}, 0 < q → (0 < p → 0 < p * q) ∧ (p = 0 → p * q = 0) ∧ (p < 0 → p * q < 0) := fun {p q} hq => ⟨fun hp => Int.mul_pos hp hq, fun hp => by rw [hp, Int.zero_mul], fun hp => Int.mul_neg_of_neg_of_pos hp hq⟩
  have a1 := m1 (p := r.1) h2
  have a2 := m1 (p := N) h1
  rw [Int.mul_comm N r.2] at a2
  omega
theorem V_self {a b : Int} : V (a, b) a b := Int.mul_comm _ _
/-- judged: a point in bounds -/
structure Good (p : Pt) : Prop where
  x0 : -1000000000000 ≤ p.x
  x1 : p.x ≤ 1000000000000
  y0 : -1000000000000 ≤ p.y
  y1 : p.y ≤ 1000000000000
  w0 : 1 ≤ p.w
  w1 : p.w ≤ 1000000000000
  g : gcdI (gcdI p.x p.y) p.w = 1
theorem Good.sz {p : Pt} (g : Good p) : Sz p := by
  obtain ⟨a, b, c, d, e, f, _⟩ := g
  exact ⟨S64.of (by omega), S64.of (by omega), S64.of (by omega)⟩
theorem Pn.good {A B : Nat} {p : Pt} (h : Pn A B p) (ha : A ≤ 1000000000000) (hb : B ≤ 1000000000000) : Good p := by
  obtain ⟨h1, h2, h3, h4, h5⟩ := h
  unfold Nb at h1 h2 h3
  exact ⟨by omega, by omega, by omega, by omega, by omega, by omega, h5⟩
theorem Pn.le {A B A' B' : Nat} {p : Pt} (h : Pn A B p) (ha : A ≤ A') (hb : B ≤ B') : Pn A' B' p := ⟨h.x.le ha, h.y.le ha, h.w.le hb, h.pw, h.g⟩
theorem Rt.le {A B A' B' : Nat} {r : Int × Int} (h : Rt A B r) (ha : A ≤ A') (hb : B ≤ B') : Rt A' B' r := ⟨h.n.le ha, h.d.le hb, h.pd⟩
def fIsPoint (i g : Nat) : Fn := ⟨1, 1, false, (.cons (.ite (.or (.not (.isi .isTup (.var 0))) (.cmp .ne (.prim .len (.cons (.var 0) .nil)) (.lit (.int 3)))) (.cons (.ret (.lit (.bl false))) .nil) .nil) (.cons (.ite (.or (.not (.call i none (.cons (.ix (.var 0) (.lit (.int 0))) (.cons (.neg (.gval 0)) (.cons (.gval 0) .nil))))) (.not (.call i none (.cons (.ix (.var 0) (.lit (.int 1))) (.cons (.neg (.gval 0)) (.cons (.gval 0) .nil)))))) (.cons (.ret (.lit (.bl false))) .nil) .nil) (.cons (.ret (.and (.call i none (.cons (.ix (.var 0) (.lit (.int 2))) (.cons (.lit (.int 1)) (.cons (.gval 0) .nil)))) (.cmp .eq (.call g none (.cons (.call g none (.cons (.ix (.var 0) (.lit (.int 0))) (.cons (.ix (.var 0) (.lit (.int 1))) .nil))) (.cons (.ix (.var 0) (.lit (.int 2))) .nil))) (.lit (.int 1))))) .nil)))⟩
def fNeedPoint (i : Nat) : Fn := ⟨1, 1, false, (.cons (.ite (.not (.call i none (.cons (.var 0) .nil))) (.cons .never .nil) .nil) .nil)⟩
section
variable {C : Ctx} {i g : Nat}
theorem pt_isTup {p : Pt} : prim .isTup [p.d] = some (.bl true) := rfl
theorem pt_len {p : Pt} : prim .len [p.d] = some (.int 3) := rfl
theorem pr_isTup {p : Int × Int} : prim .isTup [pr p] = some (.bl true) := rfl
theorem pr_len {p : Int × Int} : prim .len [pr p] = some (.int 2) := rfl
theorem run_is_point {p : Pt} (hi : InS C i) (hg : GcdS C g) (h0 : C.glob 0 = .int 1000000000000) (k : Good p) (hfu : 1000000000000 < C.fuel) : runFn C (fIsPoint i g) [.val p.d] = .ok (.bl true) [] := by
  obtain ⟨a, b, c, d, e, f, gg⟩ := k
  have q1 := hi _ _ _ a b
  have q2 := hi _ _ _ c d
  have q3 := hi _ _ _ e f
  have q4 := hg p.x p.y (by omega)
  have q5 := hg (gcdI p.x p.y) p.w (by omega)
  simp (config := { maxDischargeDepth := 20 }) only [runFn, denS, den, denL, List.map, List.replicate, List.length_cons, List.length_nil, R.bind, R.of, R.way, D.tr, D.truth, getV, getO, ioOk, argsOf, afterCall, putIo, Option.isSome, Option.map, Option.bind, bindT, List.set, endOf, List.cons_append, List.nil_append, List.getElem?_cons_zero, List.getElem?_cons_succ, mul_L, add_L, sub_L, L.mul, L.sub, L.add, x_lst, x_tup, x_fz, c_lt, c_le, c_gt, c_ge, c_eq, c_ne, c_eqB, c_neB, c_isNI, c_isNB, p_int, p_abs, p_isInt, p_isIntB, p_isBool, p_isBoolB, p_isTup, p_isLst, p_isLstT, p_isSeqT, p_isSeqL, p_isSeqI, p_isSeqB, p_isStrI, p_isStrB, Nat.reduceAdd, Nat.reduceSub, decide_true, decide_false, Bool.not_true, Bool.not_false, Bool.not_not, fIsPoint, pt_isTup, pt_len, di0, di1, di2, h0, q1, q2, q3, q4, q5, gg]
theorem run_need {d : D} (h : C.call i [.val d] = .ok (.bl true) []) : runFn C (fNeedPoint i) [.val d] = .ok .non [] := by
  simp (config := { maxDischargeDepth := 20 }) only [runFn, denS, den, denL, List.map, List.replicate, List.length_cons, List.length_nil, R.bind, R.of, R.way, D.tr, D.truth, getV, getO, ioOk, argsOf, afterCall, putIo, Option.isSome, Option.map, Option.bind, bindT, List.set, endOf, List.cons_append, List.nil_append, List.getElem?_cons_zero, List.getElem?_cons_succ, mul_L, add_L, sub_L, L.mul, L.sub, L.add, x_lst, x_tup, x_fz, c_lt, c_le, c_gt, c_ge, c_eq, c_ne, c_eqB, c_neB, c_isNI, c_isNB, p_int, p_abs, p_isInt, p_isIntB, p_isBool, p_isBoolB, p_isTup, p_isLst, p_isLstT, p_isSeqT, p_isSeqL, p_isSeqI, p_isSeqB, p_isStrI, p_isStrB, Nat.reduceAdd, Nat.reduceSub, decide_true, decide_false, Bool.not_true, Bool.not_false, Bool.not_not, fNeedPoint, h]
def fIsRatio (g : Nat) : Fn := ⟨1, 2, false, (.cons (.ite (.or (.not (.isi .isTup (.var 0))) (.cmp .ne (.prim .len (.cons (.var 0) .nil)) (.lit (.int 2)))) (.cons (.ret (.lit (.bl false))) .nil) .nil) (.cons (.for_ (.nm 1) (.items (.var 0)) (.cons (.ite (.or (.not (.isi .isInt (.var 1))) (.isi .isBool (.var 1))) (.cons (.ret (.lit (.bl false))) .nil) .nil) .nil)) (.cons (.ret (.and (.cmp .gt (.ix (.var 0) (.lit (.int 1))) (.lit (.int 0))) (.cmp .eq (.call g none (.cons (.ix (.var 0) (.lit (.int 0))) (.cons (.ix (.var 0) (.lit (.int 1))) .nil))) (.lit (.int 1))))) .nil)))⟩
theorem run_is_ratio {r : Int × Int} (hg : GcdS C g) (h1 : gcdI r.1 r.2 = 1) (h2 : 0 < r.2) (hf : r.2.natAbs < C.fuel) : runFn C (fIsRatio g) [.val (pr r)] = .ok (.bl true) [] := by
  have q := hg r.1 r.2 hf
  have l2 : prim .len [.tup [.int r.1, .int r.2]] = some (.int 2) := rfl
  simp (config := { maxDischargeDepth := 20 }) only [runFn, denS, den, denL, List.map, List.replicate, List.length_cons, List.length_nil, R.bind, R.of, R.way, D.tr, D.truth, getV, getO, ioOk, argsOf, afterCall, putIo, Option.isSome, Option.map, Option.bind, bindT, List.set, endOf, List.cons_append, List.nil_append, List.getElem?_cons_zero, List.getElem?_cons_succ, mul_L, add_L, sub_L, L.mul, L.sub, L.add, x_lst, x_tup, x_fz, c_lt, c_le, c_gt, c_ge, c_eq, c_ne, c_eqB, c_neB, c_isNI, c_isNB, p_int, p_abs, p_isInt, p_isIntB, p_isBool, p_isBoolB, p_isTup, p_isLst, p_isLstT, p_isSeqT, p_isSeqL, p_isSeqI, p_isSeqB, p_isStrI, p_isStrB, Nat.reduceAdd, Nat.reduceSub, decide_true, decide_false, Bool.not_true, Bool.not_false, Bool.not_not, fIsRatio, pr, r0, r1, l2, loopF, q, h1, h2]
end
end Ev
set_option Elab.async false
set_option linter.all false
set_option maxRecDepth 100000
set_option maxHeartbeats 4000000
set_option autoImplicit false
/-! Pl6: loops and comprehensions by what they keep; denominators of any sign; turns, orders, distances. -/
namespace Ev
/-! ### loops, comprehensions -/
theorem for_inv {t : Tg} {b : Env → R Fl} (I : Nat → Env → Prop) : ∀ {ds : List D} {k : Nat} {e : Env}, I k e → (∀ (j : Nat) (d : D) (e : Env), ds[j]? = some d → I (k + j) e → ∃ e1 e2, bindT t d e = some e1 ∧ b e1 = .ok .nx e2 ∧ I (k + j + 1) e2) →
    ∃ e', loopF t b ds e = .ok .nx e' ∧ I (k + ds.length) e'
  | [], k, e, h, _ => ⟨e, rfl, h⟩
  | d :: ds, k, e, h, st => by
    obtain ⟨e1, e2, h1, h2, h3⟩ := st 0 d e rfl h
    obtain ⟨e', q, i⟩ := for_inv (t := t) (b := b) I (ds := ds) (k := k + 1) (e := e2) h3 fun j x e hx hi => by
      have := st (j + 1) x e (by simpa using hx) (by rw [show k + (j + 1) = k + 1 + j by omega]; exact hi)
      rw [show k + (j + 1) + 1 = k + 1 + j + 1 by omega] at this
      exact this
    refine ⟨e', ?_, ?_⟩
    · unfold loopF
      rw [h1]
      show (b e1).bind _ = _
      rw [h2]
      exact q
    · rw [List.length_cons, show k + (ds.length + 1) = k + 1 + ds.length by omega]
      exact i
theorem for_all {t : Tg} {b : Env → R Fl} (I : Nat → Env → Prop) {ds : List D} {e : Env} (h : I 0 e) (st : ∀ (j : Nat) (d : D) (e : Env), ds[j]? = some d → I j e → ∃ e1 e2, bindT t d e = some e1 ∧ b e1 = .ok .nx e2 ∧ I (j + 1) e2) : ∃ e', loopF t b ds e = .ok .nx e' ∧ I ds.length e' := by
  have := for_inv (t := t) (b := b) I (ds := ds) (k := 0) h (fun j d e h1 h2 => by
    rw [Nat.zero_add] at h2 ⊢
    exact st j d e h1 h2)
  rw [Nat.zero_add] at this
  exact this
theorem rng_get {lo : Int} : ∀ {n j : Nat}, j < n → (range_ lo n)[j]? = some (.int (lo + j))
  | 0, j, h => by omega
  | n + 1, 0, h => by
    unfold range_
    rw [List.getElem?_cons_zero, show lo + ((0 : Nat) : Int) = lo by omega]
  | n + 1, j + 1, h => by
    unfold range_
    rw [List.getElem?_cons_succ, rng_get (n := n) (by omega), show lo + 1 + (j : Int) = lo + ((j + 1 : Nat) : Int) by omega]
theorem rng_len {lo : Int} : ∀ {n : Nat}, (range_ lo n).length = n
  | 0 => rfl
  | n + 1 => by
    unfold range_
    rw [List.length_cons, rng_len]
theorem rng_some {lo : Int} {n j : Nat} {d : D} (h : (range_ lo n)[j]? = some d) : j < n ∧ d = .int (lo + j) := by
  have hj : j < n := by
    have := (List.getElem?_eq_some_iff.mp h).1
    rwa [rng_len] at this
  rw [rng_get hj] at h
  exact ⟨hj, (Option.some.inj h).symm⟩
theorem rng_map : ∀ {n : Nat} {lo : Int}, range_ lo n = (List.range n).map fun (j : Nat) => D.int (lo + (j : Int))
  | n, lo => by
    apply List.ext_getElem?
    intro j
    by_cases h : j < n
    · rw [rng_get h, List.getElem?_map, List.getElem?_range h]
      rfl
    · rw [List.getElem?_eq_none (by rw [rng_len]; omega), List.getElem?_eq_none (by rw [List.length_map, List.length_range]; omega)]
theorem set_set {e : Env} {i : Nat} {a b : Option Sl} : (e.set i a).set i b = e.set i b := List.set_set ..
theorem comp_nm {i : Nat} {c f : Env → R D} {p : D → Bool} {g : D → D} {e : Env} : ∀ {ds : List D} {s : Option Sl}, (∀ d ∈ ds, c (e.set i (some (.val d))) = .ok (.bl (p d)) (e.set i (some (.val d)))) →
    (∀ d ∈ ds, p d = true → f (e.set i (some (.val d))) = .ok (g d) (e.set i (some (.val d)))) → ∃ s', compL [i] (.nm i) c f ds (e.set i s) = .ok ((ds.filter p).map g) (e.set i s')
  | [], s, _, _ => ⟨s, rfl⟩
  | d :: ds, s, h1, h2 => by
    obtain ⟨s', q⟩ := comp_nm (ds := ds) (s := some (.val d)) (fun x hx => h1 x (List.mem_cons_of_mem _ hx)) fun x hx => h2 x (List.mem_cons_of_mem _ hx)
    refine ⟨s', ?_⟩
    unfold compL
    simp only [wipes, bindT, set_set]
    rw [h1 d List.mem_cons_self]
    cases hp : p d with
    | true =>
      rw [List.filter_cons_of_pos hp, List.map_cons]
      show (match f (e.set i (some (Sl.val d))) with
        | .ok y e3 => (compL [i] (.nm i) c f ds e3).bind fun ys e4 => .ok (y :: ys) e4
        | _ => .no) = _
      rw [h2 d List.mem_cons_self hp]
      show (compL [i] (.nm i) c f ds (e.set i (some (Sl.val d)))).bind _ = _
      rw [q]
      rfl
    | false =>
      rw [List.filter_cons_of_neg (by rw [hp]; exact Bool.false_ne_true)]
      exact q
theorem set_back {e : Env} {i : Nat} {s : Option Sl} : (e.set i s).set i ((e[i]?).getD none) = e := by
  rw [set_set]
  apply List.ext_getElem?
  intro j
  by_cases h : i = j
  · subst h
    by_cases hl : i < e.length
    · rw [List.getElem?_set_self hl, List.getElem?_eq_getElem hl]
      rfl
    · rw [List.getElem?_eq_none (by rw [List.length_set]; omega), List.getElem?_eq_none (by omega)]
  · rw [List.getElem?_set_ne h]
theorem set_same {e : Env} {i : Nat} : e.set i ((e[i]?).getD none) = e := by
  have := set_back (e := e) (i := i) (s := (e[i]?).getD none)
  rwa [set_set] at this
/-- a comprehension over a name: what is kept, what is made of it -/
theorem lc_nm {C : Ctx} {i : Nat} {src cond elt : Ex} {e : Env} {ds : List D} {p : D → Bool} {g : D → D} (hs : denL C src e = .ok ds e) (hi : getO e i = none) (h1 : ∀ d ∈ ds, den C cond (e.set i (some (.val d))) = .ok (.bl (p d)) (e.set i (some (.val d))))
    (h2 : ∀ d ∈ ds, p d = true → den C elt (e.set i (some (.val d))) = .ok (g d) (e.set i (some (.val d)))) (hl : ds.length ≤ lim) : den C (.lc [i] (.nm i) src cond elt) e = .ok (.lst ((ds.filter p).map g)) e := by
  obtain ⟨s', q⟩ := comp_nm (i := i) (c := den C cond) (f := den C elt) (e := e) (s := (e[i]?).getD none) h1 h2
  rw [set_same] at q
  show ((denL C src e).bind fun ds e => match [i].all fun v => (getO e v).isNone with
    | true => match compL [i] (.nm i) (den C cond) (den C elt) ds e with
      | .ok ys e1 => if ys.length ≤ lim then R.ok (D.lst ys) (backs e e1 [i]) else .no
      | _ => .no
    | false => .no) = _
  rw [hs]
  have ha : ([i].all fun v => (getO e v).isNone) = true := by
    simp [hi]
  show (match [i].all fun v => (getO e v).isNone with
    | true => match compL [i] (.nm i) (den C cond) (den C elt) ds e with
      | .ok ys e1 => if ys.length ≤ lim then R.ok (D.lst ys) (backs e e1 [i]) else .no
      | _ => .no
    | false => .no) = _
  rw [ha, q]
  have hle : ((ds.filter p).map g).length ≤ lim := by
    rw [List.length_map]
    exact Nat.le_trans (List.length_filter_le _ _) hl
  show (if ((ds.filter p).map g).length ≤ lim then R.ok (D.lst ((ds.filter p).map g)) (backs e (e.set i s') [i]) else .no) = _
  rw [if_pos hle]
  show R.ok _ ((e.set i s').set i ((e[i]?).getD none)) = _
  rw [set_back]
/-- without a test -/
theorem lc_map {C : Ctx} {i : Nat} {src elt : Ex} {e : Env} {ds : List D} {g : D → D} (hs : denL C src e = .ok ds e) (hi : getO e i = none)
    (h2 : ∀ d ∈ ds, den C elt (e.set i (some (.val d))) = .ok (g d) (e.set i (some (.val d)))) (hl : ds.length ≤ lim) : den C (.lc [i] (.nm i) src (.lit (.bl true)) elt) e = .ok (.lst (ds.map g)) e := by
  have q := lc_nm (C := C) (i := i) (src := src) (cond := .lit (.bl true)) (elt := elt) (e := e) (ds := ds) (p := fun _ => true) (g := g) hs hi (fun d _ => rfl) (fun d hd _ => h2 d hd) hl
  rw [List.filter_eq_self.mpr fun _ _ => rfl] at q
  exact q
theorem s_seq {C : Ctx} {s r : Sm} {e e' : Env} (h : denS C s e = .ok .nx e') : denS C (.cons s r) e = denS C r e' := by
  simp only [denS]
  rw [h]
  rfl
theorem s_for {C : Ctx} {t : Tg} {src : Ex} {b : Sm} {e e' : Env} {ds : List D} (h : denL C src e = .ok ds e) (k : loopF t (denS C b) ds e = .ok .nx e') : denS C (.for_ t src b) e = .ok .nx e' := by
  simp only [denS]
  rw [h]
  exact k
/-! ### denominators of any sign -/
theorem fdiv_neg2 (a b : Int) : a.fdiv (-b) = (-a).fdiv b := by
  have := Int.neg_fdiv_neg (-a) b
  rw [Int.neg_neg] at this
  exact this
def lowN (x y w : Int) : Pt := if w < 0 then low (-x) (-y) (-w) else low x y w
def redN (a b : Int) : Int × Int := if b < 0 then red (-a) (-b) else red a b
theorem gcdI_neg_l (a b : Int) : gcdI (-a) b = gcdI a b := by unfold gcdI; rw [Int.natAbs_neg]
theorem gcdI_neg_r (a b : Int) : gcdI a (-b) = gcdI a b := by unfold gcdI; rw [Int.natAbs_neg]
def RatN (C : Ctx) (r : Nat) : Prop := ∀ a b : Int, b ≠ 0 → L 7 b → b.natAbs < C.fuel → C.call r [.val (.int a), .val (.int b)] = .ok (pr (redN a b)) []
def LowN (C : Ctx) (l : Nat) : Prop := ∀ x y w : Int, w ≠ 0 → L 7 w → y.natAbs < C.fuel → w.natAbs < C.fuel → C.call l [.val (.int x), .val (.int y), .val (.int w)] = .ok (lowN x y w).d []
section
variable {C : Ctx} {g : Nat}
theorem run_reducedN {a b : Int} (hg : GcdS C g) (h : b ≠ 0) (l : L 7 b) (hf : b.natAbs < C.fuel) : runFn C (fReduced g) [.val (.int a), .val (.int b)] = .ok (pr (redN a b)) [] := by
  have h2 := gcdI_pos (a := a) (b := b) h
  have h3 := gcdI_L (a := a) (b := b) h l
  have h4 : gcdI a b ≠ 0 := by omega
  have h5 : -(gcdI a b) ≠ 0 := by omega
  have h6 : L 7 (-(gcdI a b)) := h3.neg
  by_cases h1 : b < 0
  · simp (config := { maxDischargeDepth := 20 }) only [runFn, denS, den, denL, List.map, List.replicate, List.length_cons, List.length_nil, R.bind, R.of, R.way, D.tr, D.truth, getV, getO, ioOk, argsOf, afterCall, putIo, Option.isSome, Option.map, Option.bind, bindT, List.set, endOf, List.cons_append, List.nil_append, List.getElem?_cons_zero, List.getElem?_cons_succ, mul_L, add_L, sub_L, L.mul, L.sub, L.add, x_lst, x_tup, x_fz, c_lt, c_le, c_gt, c_ge, c_eq, c_ne, c_eqB, c_neB, c_isNI, c_isNB, p_int, p_abs, p_isInt, p_isIntB, p_isBool, p_isBoolB, p_isTup, p_isLst, p_isLstT, p_isSeqT, p_isSeqL, p_isSeqI, p_isSeqB, p_isStrI, p_isStrB, Nat.reduceAdd, Nat.reduceSub, decide_true, decide_false, Bool.not_true, Bool.not_false, Bool.not_not, fReduced, hg a b hf, h1, fdiv_L h5 h6, pr, redN, red, lim2, fdiv_neg2, gcdI_neg_l, gcdI_neg_r, ↓reduceIte]
  · simp (config := { maxDischargeDepth := 20 }) only [runFn, denS, den, denL, List.map, List.replicate, List.length_cons, List.length_nil, R.bind, R.of, R.way, D.tr, D.truth, getV, getO, ioOk, argsOf, afterCall, putIo, Option.isSome, Option.map, Option.bind, bindT, List.set, endOf, List.cons_append, List.nil_append, List.getElem?_cons_zero, List.getElem?_cons_succ, mul_L, add_L, sub_L, L.mul, L.sub, L.add, x_lst, x_tup, x_fz, c_lt, c_le, c_gt, c_ge, c_eq, c_ne, c_eqB, c_neB, c_isNI, c_isNB, p_int, p_abs, p_isInt, p_isIntB, p_isBool, p_isBoolB, p_isTup, p_isLst, p_isLstT, p_isSeqT, p_isSeqL, p_isSeqI, p_isSeqB, p_isStrI, p_isStrB, Nat.reduceAdd, Nat.reduceSub, decide_true, decide_false, Bool.not_true, Bool.not_false, Bool.not_not, fReduced, hg a b hf, h1, fdiv_L h4 h3, pr, redN, red, lim2, ↓reduceIte]
theorem run_ratioN {a b : Int} (hg : GcdS C g) (h : b ≠ 0) (l : L 7 b) (hf : b.natAbs < C.fuel) : runFn C (fRatio g) [.val (.int a), .val (.int b)] = .ok (pr (redN a b)) [] := by
  have h2 := gcdI_pos (a := a) (b := b) h
  have h3 := gcdI_L (a := a) (b := b) h l
  have h4 : gcdI a b ≠ 0 := by omega
  have h5 : -(gcdI a b) ≠ 0 := by omega
  have h6 : L 7 (-(gcdI a b)) := h3.neg
  by_cases h1 : b < 0
  · simp (config := { maxDischargeDepth := 20 }) only [runFn, denS, den, denL, List.map, List.replicate, List.length_cons, List.length_nil, R.bind, R.of, R.way, D.tr, D.truth, getV, getO, ioOk, argsOf, afterCall, putIo, Option.isSome, Option.map, Option.bind, bindT, List.set, endOf, List.cons_append, List.nil_append, List.getElem?_cons_zero, List.getElem?_cons_succ, mul_L, add_L, sub_L, L.mul, L.sub, L.add, x_lst, x_tup, x_fz, c_lt, c_le, c_gt, c_ge, c_eq, c_ne, c_eqB, c_neB, c_isNI, c_isNB, p_int, p_abs, p_isInt, p_isIntB, p_isBool, p_isBoolB, p_isTup, p_isLst, p_isLstT, p_isSeqT, p_isSeqL, p_isSeqI, p_isSeqB, p_isStrI, p_isStrB, Nat.reduceAdd, Nat.reduceSub, decide_true, decide_false, Bool.not_true, Bool.not_false, Bool.not_not, fRatio, hg a b hf, h1, fdiv_L h5 h6, pr, redN, red, lim2, fdiv_neg2, gcdI_neg_l, gcdI_neg_r, Int.zero_sub, ↓reduceIte]
  · simp (config := { maxDischargeDepth := 20 }) only [runFn, denS, den, denL, List.map, List.replicate, List.length_cons, List.length_nil, R.bind, R.of, R.way, D.tr, D.truth, getV, getO, ioOk, argsOf, afterCall, putIo, Option.isSome, Option.map, Option.bind, bindT, List.set, endOf, List.cons_append, List.nil_append, List.getElem?_cons_zero, List.getElem?_cons_succ, mul_L, add_L, sub_L, L.mul, L.sub, L.add, x_lst, x_tup, x_fz, c_lt, c_le, c_gt, c_ge, c_eq, c_ne, c_eqB, c_neB, c_isNI, c_isNB, p_int, p_abs, p_isInt, p_isIntB, p_isBool, p_isBoolB, p_isTup, p_isLst, p_isLstT, p_isSeqT, p_isSeqL, p_isSeqI, p_isSeqB, p_isStrI, p_isStrB, Nat.reduceAdd, Nat.reduceSub, decide_true, decide_false, Bool.not_true, Bool.not_false, Bool.not_not, fRatio, hg a b hf, h1, fdiv_L h4 h3, pr, redN, red, lim2, ↓reduceIte]
theorem run_lowN {x y w : Int} (hg : GcdS C g) (h : w ≠ 0) (l : L 7 w) (hy : y.natAbs < C.fuel) (hf : w.natAbs < C.fuel) : runFn C (fLow g) [.val (.int x), .val (.int y), .val (.int w)] = .ok (lowN x y w).d [] := by
  have h2 := gcdI_pos (a := gcdI x y) (b := w) h
  have h3 := gcdI_L (a := gcdI x y) (b := w) h l
  have h4 : gcdI (gcdI x y) w ≠ 0 := by omega
  have h5 : -(gcdI (gcdI x y) w) ≠ 0 := by omega
  have h6 : L 7 (-(gcdI (gcdI x y) w)) := h3.neg
  by_cases h1 : w < 0
  · simp (config := { maxDischargeDepth := 20 }) only [runFn, denS, den, denL, List.map, List.replicate, List.length_cons, List.length_nil, R.bind, R.of, R.way, D.tr, D.truth, getV, getO, ioOk, argsOf, afterCall, putIo, Option.isSome, Option.map, Option.bind, bindT, List.set, endOf, List.cons_append, List.nil_append, List.getElem?_cons_zero, List.getElem?_cons_succ, mul_L, add_L, sub_L, L.mul, L.sub, L.add, x_lst, x_tup, x_fz, c_lt, c_le, c_gt, c_ge, c_eq, c_ne, c_eqB, c_neB, c_isNI, c_isNB, p_int, p_abs, p_isInt, p_isIntB, p_isBool, p_isBoolB, p_isTup, p_isLst, p_isLstT, p_isSeqT, p_isSeqL, p_isSeqI, p_isSeqB, p_isStrI, p_isStrB, Nat.reduceAdd, Nat.reduceSub, decide_true, decide_false, Bool.not_true, Bool.not_false, Bool.not_not, fLow, hg x y hy, hg (gcdI x y) w hf, h1, fdiv_L h5 h6, Pt.d, lowN, low, lim3, fdiv_neg2, gcdI_neg_l, gcdI_neg_r, ↓reduceIte]
  · simp (config := { maxDischargeDepth := 20 }) only [runFn, denS, den, denL, List.map, List.replicate, List.length_cons, List.length_nil, R.bind, R.of, R.way, D.tr, D.truth, getV, getO, ioOk, argsOf, afterCall, putIo, Option.isSome, Option.map, Option.bind, bindT, List.set, endOf, List.cons_append, List.nil_append, List.getElem?_cons_zero, List.getElem?_cons_succ, mul_L, add_L, sub_L, L.mul, L.sub, L.add, x_lst, x_tup, x_fz, c_lt, c_le, c_gt, c_ge, c_eq, c_ne, c_eqB, c_neB, c_isNI, c_isNB, p_int, p_abs, p_isInt, p_isIntB, p_isBool, p_isBoolB, p_isTup, p_isLst, p_isLstT, p_isSeqT, p_isSeqL, p_isSeqI, p_isSeqB, p_isStrI, p_isStrB, Nat.reduceAdd, Nat.reduceSub, decide_true, decide_false, Bool.not_true, Bool.not_false, Bool.not_not, fLow, hg x y hy, hg (gcdI x y) w hf, h1, fdiv_L h4 h3, Pt.d, lowN, low, lim3, ↓reduceIte]
theorem run_lowLN {x y w : Int} (hg : GcdS C g) (h : w ≠ 0) (l : L 7 w) (hy : y.natAbs < C.fuel) (hf : w.natAbs < C.fuel) : runFn C (fLowL g) [.val (.int x), .val (.int y), .val (.int w)] = .ok (lowN x y w).d [] := by
  have h2 := gcdI_pos (a := gcdI x y) (b := w) h
  have h3 := gcdI_L (a := gcdI x y) (b := w) h l
  have h4 : gcdI (gcdI x y) w ≠ 0 := by omega
  have h5 : -(gcdI (gcdI x y) w) ≠ 0 := by omega
  have h6 : L 7 (-(gcdI (gcdI x y) w)) := h3.neg
  by_cases h1 : w < 0
  · simp (config := { maxDischargeDepth := 20 }) only [runFn, denS, den, denL, List.map, List.replicate, List.length_cons, List.length_nil, R.bind, R.of, R.way, D.tr, D.truth, getV, getO, ioOk, argsOf, afterCall, putIo, Option.isSome, Option.map, Option.bind, bindT, List.set, endOf, List.cons_append, List.nil_append, List.getElem?_cons_zero, List.getElem?_cons_succ, mul_L, add_L, sub_L, L.mul, L.sub, L.add, x_lst, x_tup, x_fz, c_lt, c_le, c_gt, c_ge, c_eq, c_ne, c_eqB, c_neB, c_isNI, c_isNB, p_int, p_abs, p_isInt, p_isIntB, p_isBool, p_isBoolB, p_isTup, p_isLst, p_isLstT, p_isSeqT, p_isSeqL, p_isSeqI, p_isSeqB, p_isStrI, p_isStrB, Nat.reduceAdd, Nat.reduceSub, decide_true, decide_false, Bool.not_true, Bool.not_false, Bool.not_not, fLowL, hg x y hy, hg (gcdI x y) w hf, h1, fdiv_L h5 h6, Pt.d, lowN, low, lim3, fdiv_neg2, gcdI_neg_l, gcdI_neg_r, Int.zero_sub, ↓reduceIte]
  · simp (config := { maxDischargeDepth := 20 }) only [runFn, denS, den, denL, List.map, List.replicate, List.length_cons, List.length_nil, R.bind, R.of, R.way, D.tr, D.truth, getV, getO, ioOk, argsOf, afterCall, putIo, Option.isSome, Option.map, Option.bind, bindT, List.set, endOf, List.cons_append, List.nil_append, List.getElem?_cons_zero, List.getElem?_cons_succ, mul_L, add_L, sub_L, L.mul, L.sub, L.add, x_lst, x_tup, x_fz, c_lt, c_le, c_gt, c_ge, c_eq, c_ne, c_eqB, c_neB, c_isNI, c_isNB, p_int, p_abs, p_isInt, p_isIntB, p_isBool, p_isBoolB, p_isTup, p_isLst, p_isLstT, p_isSeqT, p_isSeqL, p_isSeqI, p_isSeqB, p_isStrI, p_isStrB, Nat.reduceAdd, Nat.reduceSub, decide_true, decide_false, Bool.not_true, Bool.not_false, Bool.not_not, fLowL, hg x y hy, hg (gcdI x y) w hf, h1, fdiv_L h4 h3, Pt.d, lowN, low, lim3, ↓reduceIte]
end
/-- r stands for N over D, D of any sign -/
theorem redN_V {a b N D : Int} (h : b ≠ 0) (e : a * D = b * N) : V (redN a b) N D := by
  unfold redN
  split
  · exact red_V (by omega) (by grind)
  · exact red_V (by omega) e
theorem redN_cn {a b : Int} {A B : Nat} (h : b ≠ 0) (ha : Nb A a) (hb : Nb B b) : Cn A B (redN a b) := by
  unfold redN
  split
  · exact red_cn (by omega) (show (-a).natAbs ≤ A by rw [Int.natAbs_neg]; exact ha) (show (-b).natAbs ≤ B by rw [Int.natAbs_neg]; exact hb)
  · exact red_cn (by omega) ha hb
theorem lowN_pn {x y w : Int} {A B : Nat} (h : w ≠ 0) (hx : Nb A x) (hy : Nb A y) (hw : Nb B w) : Pn A B (lowN x y w) := by
  have n : ∀ {A : Nat} {i : Int}, Nb A i → Nb A (-i) := fun {A i} h => by
    unfold Nb at *
    rw [Int.natAbs_neg]
    exact h
  unfold lowN
  split
  · exact low_pn (by omega) (n hx) (n hy) (n hw)
  · exact low_pn (by omega) hx hy hw
/-- the point stands for x / w, y / w -/
theorem lowN_V {x y w : Int} (h : w ≠ 0) : (lowN x y w).x * w = x * (lowN x y w).w ∧ (lowN x y w).y * w = y * (lowN x y w).w := by
  unfold lowN
  split
  · obtain ⟨g, hg, e1, e2, e3, p, q⟩ := low_spec (x := -x) (y := -y) (w := -w) (by omega)
    generalize low (-x) (-y) (-w) = r at *
    have e1 : x = -(g * r.x) := by omega
    have e2 : y = -(g * r.y) := by omega
    have e3 : w = -(g * r.w) := by omega
    rw [e1, e2, e3]
    constructor <;> grind
  · obtain ⟨g, hg, e1, e2, e3, p, q⟩ := low_spec (x := x) (y := y) (w := w) (by omega)
    generalize low x y w = r at *
    rw [e1, e2, e3]
    constructor <;> grind
theorem Nb.L {A k : Nat} {i : Int} (h : Nb A i) (q : A < 2 ^ (64 * 2 ^ k)) : L k i := Nat.lt_of_le_of_lt h q
/-! ### turns, orders -/
def dbl (a b c : Pt) : Int := a.x * (b.y * c.w - c.y * b.w) - a.y * (b.x * c.w - c.x * b.w) + a.w * (b.x * c.y - c.x * b.y)
def fDoubled : Fn := ⟨3, 5, false, (.cons (.asg (.nm 3) (.bin .mul (.ix (.var 0) (.lit (.int 0))) (.bin .sub (.bin .mul (.ix (.var 1) (.lit (.int 1))) (.ix (.var 2) (.lit (.int 2)))) (.bin .mul (.ix (.var 2) (.lit (.int 1))) (.ix (.var 1) (.lit (.int 2))))))) (.cons (.asg (.nm 4) (.bin .mul (.ix (.var 0) (.lit (.int 1))) (.bin .sub (.bin .mul (.ix (.var 1) (.lit (.int 0))) (.ix (.var 2) (.lit (.int 2)))) (.bin .mul (.ix (.var 2) (.lit (.int 0))) (.ix (.var 1) (.lit (.int 2))))))) (.cons (.ret (.bin .add (.bin .sub (.var 3) (.var 4)) (.bin .mul (.ix (.var 0) (.lit (.int 2))) (.bin .sub (.bin .mul (.ix (.var 1) (.lit (.int 0))) (.ix (.var 2) (.lit (.int 1)))) (.bin .mul (.ix (.var 2) (.lit (.int 0))) (.ix (.var 1) (.lit (.int 1)))))))) .nil)))⟩
def fTurnOf (sg db : Nat) : Fn := ⟨3, 3, false, (.cons (.ret (.call sg none (.cons (.call db none (.cons (.var 0) (.cons (.var 1) (.cons (.var 2) .nil)))) .nil))) .nil)⟩
def fLDoubled : Fn := ⟨3, 7, false, (.cons (.par2 3 4 (.bin .sub (.bin .mul (.ix (.var 1) (.lit (.int 0))) (.ix (.var 0) (.lit (.int 2)))) (.bin .mul (.ix (.var 0) (.lit (.int 0))) (.ix (.var 1) (.lit (.int 2))))) (.bin .sub (.bin .mul (.ix (.var 1) (.lit (.int 1))) (.ix (.var 0) (.lit (.int 2)))) (.bin .mul (.ix (.var 0) (.lit (.int 1))) (.ix (.var 1) (.lit (.int 2)))))) (.cons (.par2 5 6 (.bin .sub (.bin .mul (.ix (.var 2) (.lit (.int 0))) (.ix (.var 0) (.lit (.int 2)))) (.bin .mul (.ix (.var 0) (.lit (.int 0))) (.ix (.var 2) (.lit (.int 2))))) (.bin .sub (.bin .mul (.ix (.var 2) (.lit (.int 1))) (.ix (.var 0) (.lit (.int 2)))) (.bin .mul (.ix (.var 0) (.lit (.int 1))) (.ix (.var 2) (.lit (.int 2)))))) (.cons (.ret (.bin .fdiv (.bin .sub (.bin .mul (.var 3) (.var 6)) (.bin .mul (.var 5) (.var 4))) (.ix (.var 0) (.lit (.int 2))))) .nil)))⟩
def fLTurn (sg db : Nat) : Fn := ⟨3, 3, false, (.cons (.ret (.call sg none (.cons (.call db none (.cons (.var 0) (.cons (.var 1) (.cons (.var 2) .nil)))) .nil))) .nil)⟩
def fNeedAll (np : Nat) : Fn := ⟨1, 2, false, (.cons (.for_ (.nm 1) (.items (.var 0)) (.cons (.exp (.call np none (.cons (.var 1) .nil))) .nil)) .nil)⟩
def fFar2 (r : Nat) : Fn := ⟨2, 5, false, (.cons (.par3 2 3 4 (.bin .sub (.bin .mul (.ix (.var 0) (.lit (.int 0))) (.ix (.var 1) (.lit (.int 2)))) (.bin .mul (.ix (.var 1) (.lit (.int 0))) (.ix (.var 0) (.lit (.int 2))))) (.bin .sub (.bin .mul (.ix (.var 0) (.lit (.int 1))) (.ix (.var 1) (.lit (.int 2)))) (.bin .mul (.ix (.var 1) (.lit (.int 1))) (.ix (.var 0) (.lit (.int 2))))) (.bin .mul (.ix (.var 0) (.lit (.int 2))) (.ix (.var 1) (.lit (.int 2))))) (.cons (.ret (.call r none (.cons (.bin .add (.bin .mul (.var 2) (.var 2)) (.bin .mul (.var 3) (.var 3))) (.cons (.bin .mul (.var 4) (.var 4)) .nil)))) .nil))⟩
def fLFar2 (r : Nat) : Fn := ⟨2, 4, false, (.cons (.par2 2 3 (.bin .sub (.bin .mul (.ix (.var 0) (.lit (.int 0))) (.ix (.var 1) (.lit (.int 2)))) (.bin .mul (.ix (.var 1) (.lit (.int 0))) (.ix (.var 0) (.lit (.int 2))))) (.bin .sub (.bin .mul (.ix (.var 0) (.lit (.int 1))) (.ix (.var 1) (.lit (.int 2)))) (.bin .mul (.ix (.var 1) (.lit (.int 1))) (.ix (.var 0) (.lit (.int 2)))))) (.cons (.ret (.call r none (.cons (.bin .add (.bin .mul (.var 2) (.var 2)) (.bin .mul (.var 3) (.var 3))) (.cons (.bin .mul (.bin .mul (.bin .mul (.ix (.var 0) (.lit (.int 2))) (.ix (.var 0) (.lit (.int 2)))) (.ix (.var 1) (.lit (.int 2)))) (.ix (.var 1) (.lit (.int 2)))) .nil)))) .nil))⟩
def fLess : Fn := ⟨2, 2, false, (.cons (.ret (.cmp .lt (.bin .mul (.ix (.var 0) (.lit (.int 0))) (.ix (.var 1) (.lit (.int 1)))) (.bin .mul (.ix (.var 1) (.lit (.int 0))) (.ix (.var 0) (.lit (.int 1)))))) .nil)⟩
def DblS (C : Ctx) (f : Nat) : Prop := ∀ a b c : Pt, Sz a → Sz b → Sz c → a.w ≠ 0 → C.call f [.val a.d, .val b.d, .val c.d] = .ok (.int (dbl a b c)) []
def TrnS (C : Ctx) (f : Nat) : Prop := ∀ a b c : Pt, Sz a → Sz b → Sz c → a.w ≠ 0 → C.call f [.val a.d, .val b.d, .val c.d] = .ok (.int (sgn (dbl a b c))) []
def AllS (C : Ctx) (f np : Nat) : Prop := ∀ ds : List D, (∀ d ∈ ds, C.call np [.val d] = .ok .non []) → C.call f [.val (.lst ds)] = .ok .non []
section
variable {C : Ctx}
theorem run_doubled {a b c : Pt} (ha : Sz a) (hb : Sz b) (hc : Sz c) : runFn C fDoubled [.val a.d, .val b.d, .val c.d] = .ok (.int (dbl a b c)) [] := by
  obtain ⟨a1, a2, a3⟩ := ha; obtain ⟨b1, b2, b3⟩ := hb; obtain ⟨c1, c2, c3⟩ := hc
  unfold S64 at *
  simp (config := { maxDischargeDepth := 20 }) only [runFn, denS, den, denL, List.map, List.replicate, List.length_cons, List.length_nil, R.bind, R.of, R.way, D.tr, D.truth, getV, getO, ioOk, argsOf, afterCall, putIo, Option.isSome, Option.map, Option.bind, bindT, List.set, endOf, List.cons_append, List.nil_append, List.getElem?_cons_zero, List.getElem?_cons_succ, mul_L, add_L, sub_L, L.mul, L.sub, L.add, x_lst, x_tup, x_fz, c_lt, c_le, c_gt, c_ge, c_eq, c_ne, c_eqB, c_neB, c_isNI, c_isNB, p_int, p_abs, p_isInt, p_isIntB, p_isBool, p_isBoolB, p_isTup, p_isLst, p_isLstT, p_isSeqT, p_isSeqL, p_isSeqI, p_isSeqB, p_isStrI, p_isStrB, Nat.reduceAdd, Nat.reduceSub, decide_true, decide_false, Bool.not_true, Bool.not_false, Bool.not_not, fDoubled, di0, di1, di2, dbl, a1, a2, a3, b1, b2, b3, c1, c2, c3]
theorem run_turn_of {sg db : Nat} {a b c : Pt} (hg : SgnS C sg) (hd : C.call db [.val a.d, .val b.d, .val c.d] = .ok (.int (dbl a b c)) []) : runFn C (fTurnOf sg db) [.val a.d, .val b.d, .val c.d] = .ok (.int (sgn (dbl a b c))) [] := by
  have := hg (dbl a b c)
  simp (config := { maxDischargeDepth := 20 }) only [runFn, denS, den, denL, List.map, List.replicate, List.length_cons, List.length_nil, R.bind, R.of, R.way, D.tr, D.truth, getV, getO, ioOk, argsOf, afterCall, putIo, Option.isSome, Option.map, Option.bind, bindT, List.set, endOf, List.cons_append, List.nil_append, List.getElem?_cons_zero, List.getElem?_cons_succ, mul_L, add_L, sub_L, L.mul, L.sub, L.add, x_lst, x_tup, x_fz, c_lt, c_le, c_gt, c_ge, c_eq, c_ne, c_eqB, c_neB, c_isNI, c_isNB, p_int, p_abs, p_isInt, p_isIntB, p_isBool, p_isBoolB, p_isTup, p_isLst, p_isLstT, p_isSeqT, p_isSeqL, p_isSeqI, p_isSeqB, p_isStrI, p_isStrB, Nat.reduceAdd, Nat.reduceSub, decide_true, decide_false, Bool.not_true, Bool.not_false, Bool.not_not, fTurnOf, hd, this]
theorem ldbl_id (a b c : Pt) : (b.x * a.w - a.x * b.w) * (c.y * a.w - a.y * c.w) - (c.x * a.w - a.x * c.w) * (b.y * a.w - a.y * b.w) = a.w * dbl a b c := by
  unfold dbl
  grind
theorem run_ldoubled {a b c : Pt} (ha : Sz a) (hb : Sz b) (hc : Sz c) (h : a.w ≠ 0) : runFn C fLDoubled [.val a.d, .val b.d, .val c.d] = .ok (.int (dbl a b c)) [] := by
  have e := ldbl_id a b c
  obtain ⟨a1, a2, a3⟩ := ha; obtain ⟨b1, b2, b3⟩ := hb; obtain ⟨c1, c2, c3⟩ := hc
  have lw := a3 7
  have q : ((b.x * a.w - a.x * b.w) * (c.y * a.w - a.y * c.w) - (c.x * a.w - a.x * c.w) * (b.y * a.w - a.y * b.w)).fdiv a.w = dbl a b c := by
    rw [e]
    exact Int.mul_fdiv_cancel_left _ h
  unfold S64 at *
  simp (config := { maxDischargeDepth := 20 }) only [runFn, denS, den, denL, List.map, List.replicate, List.length_cons, List.length_nil, R.bind, R.of, R.way, D.tr, D.truth, getV, getO, ioOk, argsOf, afterCall, putIo, Option.isSome, Option.map, Option.bind, bindT, List.set, endOf, List.cons_append, List.nil_append, List.getElem?_cons_zero, List.getElem?_cons_succ, mul_L, add_L, sub_L, L.mul, L.sub, L.add, x_lst, x_tup, x_fz, c_lt, c_le, c_gt, c_ge, c_eq, c_ne, c_eqB, c_neB, c_isNI, c_isNB, p_int, p_abs, p_isInt, p_isIntB, p_isBool, p_isBoolB, p_isTup, p_isLst, p_isLstT, p_isSeqT, p_isSeqL, p_isSeqI, p_isSeqB, p_isStrI, p_isStrB, Nat.reduceAdd, Nat.reduceSub, decide_true, decide_false, Bool.not_true, Bool.not_false, Bool.not_not, fLDoubled, di0, di1, di2, a1, a2, a3, b1, b2, b3, c1, c2, c3, fdiv_L h lw, q]
theorem run_lturn {sg db : Nat} {a b c : Pt} (hg : SgnS C sg) (hd : C.call db [.val a.d, .val b.d, .val c.d] = .ok (.int (dbl a b c)) []) : runFn C (fLTurn sg db) [.val a.d, .val b.d, .val c.d] = .ok (.int (sgn (dbl a b c))) [] := by
  have := hg (dbl a b c)
  simp (config := { maxDischargeDepth := 20 }) only [runFn, denS, den, denL, List.map, List.replicate, List.length_cons, List.length_nil, R.bind, R.of, R.way, D.tr, D.truth, getV, getO, ioOk, argsOf, afterCall, putIo, Option.isSome, Option.map, Option.bind, bindT, List.set, endOf, List.cons_append, List.nil_append, List.getElem?_cons_zero, List.getElem?_cons_succ, mul_L, add_L, sub_L, L.mul, L.sub, L.add, x_lst, x_tup, x_fz, c_lt, c_le, c_gt, c_ge, c_eq, c_ne, c_eqB, c_neB, c_isNI, c_isNB, p_int, p_abs, p_isInt, p_isIntB, p_isBool, p_isBoolB, p_isTup, p_isLst, p_isLstT, p_isSeqT, p_isSeqL, p_isSeqI, p_isSeqB, p_isStrI, p_isStrB, Nat.reduceAdd, Nat.reduceSub, decide_true, decide_false, Bool.not_true, Bool.not_false, Bool.not_not, fLTurn, hd, this]
theorem run_need_all {np : Nat} {ds : List D} (h : ∀ d ∈ ds, C.call np [.val d] = .ok .non []) : runFn C (fNeedAll np) [.val (.lst ds)] = .ok .non [] := by
  obtain ⟨e', q, i⟩ := for_all (t := .nm 1) (b := denS C (.cons (.exp (.call np none (.cons (.var 1) .nil))) .nil)) (ds := ds) (e := [some (.val (.lst ds)), none]) (fun _ e => ∃ s, e = [some (.val (.lst ds)), s]) ⟨none, rfl⟩ (fun j d e hd hi => by
    obtain ⟨s, rfl⟩ := hi
    have hc := h d (List.mem_of_getElem? hd)
    refine ⟨[some (.val (.lst ds)), some (.val d)], [some (.val (.lst ds)), some (.val d)], rfl, ?_, _, rfl⟩
    simp (config := { maxDischargeDepth := 20 }) only [runFn, denS, den, denL, List.map, List.replicate, List.length_cons, List.length_nil, R.bind, R.of, R.way, D.tr, D.truth, getV, getO, ioOk, argsOf, afterCall, putIo, Option.isSome, Option.map, Option.bind, bindT, List.set, endOf, List.cons_append, List.nil_append, List.getElem?_cons_zero, List.getElem?_cons_succ, mul_L, add_L, sub_L, L.mul, L.sub, L.add, x_lst, x_tup, x_fz, c_lt, c_le, c_gt, c_ge, c_eq, c_ne, c_eqB, c_neB, c_isNI, c_isNB, p_int, p_abs, p_isInt, p_isIntB, p_isBool, p_isBoolB, p_isTup, p_isLst, p_isLstT, p_isSeqT, p_isSeqL, p_isSeqI, p_isSeqB, p_isStrI, p_isStrB, Nat.reduceAdd, Nat.reduceSub, decide_true, decide_false, Bool.not_true, Bool.not_false, Bool.not_not, hc])
  have e1 : denS C (.for_ (.nm 1) (.items (.var 0)) (.cons (.exp (.call np none (.cons (.var 1) .nil))) .nil)) [some (.val (.lst ds)), none] = .ok .nx e' := by
    refine s_for (ds := ds) ?_ q
    simp (config := { maxDischargeDepth := 20 }) only [runFn, denS, den, denL, List.map, List.replicate, List.length_cons, List.length_nil, R.bind, R.of, R.way, D.tr, D.truth, getV, getO, ioOk, argsOf, afterCall, putIo, Option.isSome, Option.map, Option.bind, bindT, List.set, endOf, List.cons_append, List.nil_append, List.getElem?_cons_zero, List.getElem?_cons_succ, mul_L, add_L, sub_L, L.mul, L.sub, L.add, x_lst, x_tup, x_fz, c_lt, c_le, c_gt, c_ge, c_eq, c_ne, c_eqB, c_neB, c_isNI, c_isNB, p_int, p_abs, p_isInt, p_isIntB, p_isBool, p_isBoolB, p_isTup, p_isLst, p_isLstT, p_isSeqT, p_isSeqL, p_isSeqI, p_isSeqB, p_isStrI, p_isStrB, Nat.reduceAdd, Nat.reduceSub, decide_true, decide_false, Bool.not_true, Bool.not_false, Bool.not_not]
  unfold runFn
  show (match denS C (.cons (.for_ (.nm 1) (.items (.var 0)) (.cons (.exp (.call np none (.cons (.var 1) .nil))) .nil)) .nil) [some (.val (.lst ds)), none] with
    | R.ok Fl.nx e => endOf false .non e
    | R.ok (Fl.rt d) e => endOf false d e
    | R.ex x _ => O.ex x
    | _ => .no) = _
  rw [s_seq e1]
  rfl
def farN (a b : Pt) : Int := (a.x * b.w - b.x * a.w) * (a.x * b.w - b.x * a.w) + (a.y * b.w - b.y * a.w) * (a.y * b.w - b.y * a.w)
def farD (a b : Pt) : Int := (a.w * b.w) * (a.w * b.w)
def far (a b : Pt) : Int × Int := red (farN a b) (farD a b)
theorem farD_pos {a b : Pt} (ha : a.w ≠ 0) (hb : b.w ≠ 0) : 0 < farD a b := by
  unfold farD
  have h : a.w * b.w ≠ 0 := Int.mul_ne_zero ha hb
  rcases Int.lt_or_gt_of_ne h with h | h
  · exact Int.mul_pos_of_neg_of_neg h h
  · exact Int.mul_pos h h
theorem farD_eq (a b : Pt) : a.w * a.w * b.w * b.w = farD a b := by unfold farD; grind
theorem run_far2 {r : Nat} {a b : Pt} (hr : RatS C r) (ha : Sz a) (hb : Sz b) (h1 : a.w ≠ 0) (h2 : b.w ≠ 0) (hfu : 2 ^ 257 < C.fuel) : runFn C (fFar2 r) [.val a.d, .val b.d] = .ok (pr (far a b)) [] := by
  obtain ⟨a1, a2, a3⟩ := ha; obtain ⟨b1, b2, b3⟩ := hb
  have l7 : ∀ n, L (n + 2) (farD a b) := fun n => ((a3 n).mul (b3 n)).mul ((a3 n).mul (b3 n))
  have hf : (farD a b).natAbs < C.fuel := Nat.lt_trans (Nat.lt_of_lt_of_le (l7 0) (Nat.pow_le_pow_right (by decide) (by decide))) hfu
  have q := hr (farN a b) (farD a b) (farD_pos h1 h2) (l7 5) hf
  unfold farN farD at q
  unfold S64 at *
  simp (config := { maxDischargeDepth := 20 }) only [runFn, denS, den, denL, List.map, List.replicate, List.length_cons, List.length_nil, R.bind, R.of, R.way, D.tr, D.truth, getV, getO, ioOk, argsOf, afterCall, putIo, Option.isSome, Option.map, Option.bind, bindT, List.set, endOf, List.cons_append, List.nil_append, List.getElem?_cons_zero, List.getElem?_cons_succ, mul_L, add_L, sub_L, L.mul, L.sub, L.add, x_lst, x_tup, x_fz, c_lt, c_le, c_gt, c_ge, c_eq, c_ne, c_eqB, c_neB, c_isNI, c_isNB, p_int, p_abs, p_isInt, p_isIntB, p_isBool, p_isBoolB, p_isTup, p_isLst, p_isLstT, p_isSeqT, p_isSeqL, p_isSeqI, p_isSeqB, p_isStrI, p_isStrB, Nat.reduceAdd, Nat.reduceSub, decide_true, decide_false, Bool.not_true, Bool.not_false, Bool.not_not, fFar2, di0, di1, di2, a1, a2, a3, b1, b2, b3, q, far, farN, farD]
theorem run_lfar2 {r : Nat} {a b : Pt} (hr : RatS C r) (ha : Sz a) (hb : Sz b) (h1 : a.w ≠ 0) (h2 : b.w ≠ 0) (hfu : 2 ^ 257 < C.fuel) : runFn C (fLFar2 r) [.val a.d, .val b.d] = .ok (pr (far a b)) [] := by
  obtain ⟨a1, a2, a3⟩ := ha; obtain ⟨b1, b2, b3⟩ := hb
  have l7 : ∀ n, L (n + 2) (farD a b) := fun n => ((a3 n).mul (b3 n)).mul ((a3 n).mul (b3 n))
  have hf : (farD a b).natAbs < C.fuel := Nat.lt_trans (Nat.lt_of_lt_of_le (l7 0) (Nat.pow_le_pow_right (by decide) (by decide))) hfu
  have q := hr (farN a b) (farD a b) (farD_pos h1 h2) (l7 5) hf
  unfold farN at q
  unfold S64 at *
  simp (config := { maxDischargeDepth := 20 }) only [runFn, denS, den, denL, List.map, List.replicate, List.length_cons, List.length_nil, R.bind, R.of, R.way, D.tr, D.truth, getV, getO, ioOk, argsOf, afterCall, putIo, Option.isSome, Option.map, Option.bind, bindT, List.set, endOf, List.cons_append, List.nil_append, List.getElem?_cons_zero, List.getElem?_cons_succ, mul_L, add_L, sub_L, L.mul, L.sub, L.add, x_lst, x_tup, x_fz, c_lt, c_le, c_gt, c_ge, c_eq, c_ne, c_eqB, c_neB, c_isNI, c_isNB, p_int, p_abs, p_isInt, p_isIntB, p_isBool, p_isBoolB, p_isTup, p_isLst, p_isLstT, p_isSeqT, p_isSeqL, p_isSeqI, p_isSeqB, p_isStrI, p_isStrB, Nat.reduceAdd, Nat.reduceSub, decide_true, decide_false, Bool.not_true, Bool.not_false, Bool.not_not, fLFar2, di0, di1, di2, a1, a2, a3, b1, b2, b3, farD_eq, q, far, farN]
theorem run_less {p q : Int × Int} {k : Nat} (h1 : L 12 p.1) (h2 : L 12 p.2) (h3 : L 12 q.1) (h4 : L 12 q.2) : runFn C fLess [.val (pr p), .val (pr q)] = .ok (.bl (decide (p.1 * q.2 < q.1 * p.2))) [] := by
  simp (config := { maxDischargeDepth := 20 }) only [runFn, denS, den, denL, List.map, List.replicate, List.length_cons, List.length_nil, R.bind, R.of, R.way, D.tr, D.truth, getV, getO, ioOk, argsOf, afterCall, putIo, Option.isSome, Option.map, Option.bind, bindT, List.set, endOf, List.cons_append, List.nil_append, List.getElem?_cons_zero, List.getElem?_cons_succ, mul_L, add_L, sub_L, L.mul, L.sub, L.add, x_lst, x_tup, x_fz, c_lt, c_le, c_gt, c_ge, c_eq, c_ne, c_eqB, c_neB, c_isNI, c_isNB, p_int, p_abs, p_isInt, p_isIntB, p_isBool, p_isBoolB, p_isTup, p_isLst, p_isLstT, p_isSeqT, p_isSeqL, p_isSeqI, p_isSeqB, p_isStrI, p_isStrB, Nat.reduceAdd, Nat.reduceSub, decide_true, decide_false, Bool.not_true, Bool.not_false, Bool.not_not, fLess, pi0, pi1, h1, h2, h3, h4]
end
end Ev
set_option Elab.async false
set_option linter.all false
set_option maxRecDepth 100000
set_option maxHeartbeats 4000000
set_option autoImplicit false
/-! Pl7: points in lists; common denominators; lists lent; points drawn on a grid. -/
namespace Ev
/-! ### points in lists -/
theorem shs_pts : ∀ (ps : List Pt), D.shs 60 (ps.map Pt.d) = true
  | [] => by simp [D.shs]
  | p :: ps => by
    rw [List.map_cons]
    unfold D.shs
    rw [shs_pts ps]
    simp [Pt.d, D.sh, D.shs]
theorem sh_pt (p : Pt) : D.sh 60 p.d = true := by simp [Pt.d, D.sh, D.shs]
theorem eqv_pt (a b : Pt) : D.eqv a.d b.d = decide (a = b) := by
  obtain ⟨x, y, w⟩ := a
  obtain ⟨x', y', w'⟩ := b
  simp [Pt.d, D.eqv, D.eqvs]
theorem memOf_pts (p : Pt) : ∀ ps : List Pt, memOf p.d (ps.map Pt.d) = decide (p ∈ ps)
  | [] => by simp [memOf]
  | q :: ps => by
    rw [List.map_cons]
    unfold memOf
    rw [memOf_pts p ps, eqv_pt]
    by_cases h : q = p
    · subst h; simp
    · have : p ≠ q := fun z => h z.symm
      simp [h, this]
theorem c_memP {p : Pt} {ps : List Pt} : cmpop .mem p.d (.lst (ps.map Pt.d)) = some (decide (p ∈ ps)) := by
  show (if (D.sh 60 p.d && D.sh 60 (.lst (ps.map Pt.d))) = true then some (memOf p.d (ps.map Pt.d)) else none) = _
  have e : (D.sh 60 p.d && D.sh 60 (.lst (ps.map Pt.d))) = true := by
    rw [sh_pt]
    unfold D.sh
    rw [shs_pts]
    rfl
  rw [if_pos e, memOf_pts]
theorem c_nmemP {p : Pt} {ps : List Pt} : cmpop .nmem p.d (.lst (ps.map Pt.d)) = some (!decide (p ∈ ps)) := by
  show (if (D.sh 60 p.d && D.sh 60 (.lst (ps.map Pt.d))) = true then some (!memOf p.d (ps.map Pt.d)) else none) = _
  have e : (D.sh 60 p.d && D.sh 60 (.lst (ps.map Pt.d))) = true := by
    rw [sh_pt]
    unfold D.sh
    rw [shs_pts]
    rfl
  rw [if_pos e, memOf_pts]
theorem c_nmemT {p : Pt} {ps : List Pt} : cmpop .nmem p.d (.tup (ps.map Pt.d)) = some (!decide (p ∈ ps)) := by
  show (if (D.sh 60 p.d && D.sh 60 (.tup (ps.map Pt.d))) = true then some (!memOf p.d (ps.map Pt.d)) else none) = _
  have e : (D.sh 60 p.d && D.sh 60 (.tup (ps.map Pt.d))) = true := by
    rw [sh_pt]
    unfold D.sh
    rw [shs_pts]
    rfl
  rw [if_pos e, memOf_pts]
theorem c_memT {p : Pt} {ps : List Pt} : cmpop .mem p.d (.tup (ps.map Pt.d)) = some (decide (p ∈ ps)) := by
  show (if (D.sh 60 p.d && D.sh 60 (.tup (ps.map Pt.d))) = true then some (memOf p.d (ps.map Pt.d)) else none) = _
  have e : (D.sh 60 p.d && D.sh 60 (.tup (ps.map Pt.d))) = true := by
    rw [sh_pt]
    unfold D.sh
    rw [shs_pts]
    rfl
  rw [if_pos e, memOf_pts]
theorem flat_pt (p : Pt) : D.flat p.d = true := by simp [Pt.d, D.flat, D.flats]
theorem flats_pts : ∀ ps : List Pt, D.flats (ps.map Pt.d) = true
  | [] => by simp [D.flats]
  | p :: ps => by
    rw [List.map_cons]
    unfold D.flats
    rw [flat_pt, flats_pts ps]
    rfl
theorem flats_ints : ∀ ns : List Int, D.flats (ns.map D.int) = true
  | [] => by simp [D.flats]
  | n :: ns => by
    rw [List.map_cons]
    unfold D.flats
    rw [flats_ints ns]
    simp [D.flat]
theorem row_flat {s : List Int} {cs : List D} (h : Row s cs) : D.flats cs = true := by
  obtain ⟨i, r, h, rfl, _⟩ := h
  simp [D.flats, D.flat, flats_ints]
theorem pts_get {ps : List Pt} {d : D} {j : Nat} (h : (ps.map Pt.d)[j]? = some d) : ∃ p, ps[j]? = some p ∧ d = p.d := by
  rw [List.getElem?_map] at h
  cases z : ps[j]? with
  | none => rw [z] at h; cases h
  | some p => rw [z] at h; cases h; exact ⟨p, rfl, rfl⟩
theorem len_pts {ps : List Pt} (h : ps.length ≤ 1000000) : prim .len [.lst (ps.map Pt.d)] = some (.int (ps.length : Int)) := by
  show (if (ps.map Pt.d).length ≤ lim then some (D.int ((ps.map Pt.d).length : Int)) else none) = _
  rw [List.length_map, if_pos (Nat.le_trans h (by decide))]
theorem len_ptsT {ps : List Pt} (h : ps.length ≤ 1000000) : prim .len [.tup (ps.map Pt.d)] = some (.int (ps.length : Int)) := by
  show (if (ps.map Pt.d).length ≤ lim then some (D.int ((ps.map Pt.d).length : Int)) else none) = _
  rw [List.length_map, if_pos (Nat.le_trans h (by decide))]
/-- so many different ones within a list -/
theorem nodup_le {α : Type} [DecidableEq α] : ∀ {l m : List α}, l.Nodup → (∀ x ∈ l, x ∈ m) → l.length ≤ m.length
  | [], m, _, _ => Nat.zero_le _
  | x :: l, m, h, k => by
    have hx := k x List.mem_cons_self
    obtain ⟨h1, h2⟩ := List.nodup_cons.mp h
    have := nodup_le (l := l) (m := m.erase x) h2 fun y hy => (List.mem_erase_of_ne (fun e => h1 (by rw [← e]; exact hy))).mpr (k y (List.mem_cons_of_mem _ hy))
    rw [List.length_erase_of_mem hx] at this
    have : 0 < m.length := List.length_pos_of_mem hx
    rw [List.length_cons]
    omega
/-- a slot that a lent list does not mind -/
def SlOk (s : Option Sl) : Prop := (isVal s || slFlat s) = true
theorem SlOk.none : SlOk none := rfl
theorem SlOk.val {d : D} : SlOk (some (.val d)) := rfl
theorem iv1 {d : D} : isVal (some (.val d)) = true := rfl
theorem iv2 {ds : List D} : isVal (some (.own ds)) = false := rfl
theorem iv3 : isVal none = false := rfl
theorem sf1 : slFlat none = true := rfl
theorem sf2 {d : D} : slFlat (some (.val d)) = d.flat := rfl
theorem sf3 {ds : List D} : slFlat (some (.own ds)) = D.flats ds := rfl
theorem lo0 {i k : Nat} {e : Env} : lendOk i k [] e = true := rfl
theorem lo1 {i k : Nat} {a b : Option Sl} {e e' : Env} : lendOk i k (a :: e) (b :: e') = ((k == i || (isVal a || slFlat b)) && lendOk i (k + 1) e e') := rfl
theorem fl_int {i : Int} : D.flat (.int i) = true := rfl
theorem fl_bl {b : Bool} : D.flat (.bl b) = true := rfl
theorem fl_non : D.flat .non = true := rfl
/-! ### common denominators -/
def lcmI (f w : Int) : Int := f.fdiv (gcdI f w) * w
theorem lcmI_ok {f w : Int} (hf : 0 < f) (hw : 0 < w) : 0 < lcmI f w ∧ f ∣ lcmI f w ∧ w ∣ lcmI f w := by
  have hg := gcdI_pos (a := f) (b := w) (by omega)
  have e1 := div_back (gcdI_dvd_l f w)
  have e2 := div_back (gcdI_dvd_r f w)
  have p : 0 < f.fdiv (gcdI f w) := by
    rw [e1] at hf
    exact pos_of hg hf
  refine ⟨Int.mul_pos p hw, ⟨w.fdiv (gcdI f w), ?_⟩, ⟨f.fdiv (gcdI f w), Int.mul_comm _ _⟩⟩
  unfold lcmI
  generalize f.fdiv (gcdI f w) = a at *
  generalize w.fdiv (gcdI f w) = b at *
  generalize gcdI f w = g at *
  rw [e1, e2]
  grind
theorem lcmI_nb {f w : Int} {A B : Nat} (hf : 0 < f) (hw : 0 < w) (h : Nb A f) (k : Nb B w) : Nb (A * B) (lcmI f w) := by
  have hg := gcdI_pos (a := f) (b := w) (by omega)
  have e1 := div_back (gcdI_dvd_l f w)
  refine Nb.mul (.part hg ?_) k
  rw [← e1]
  exact h
theorem fdiv_back {W w : Int} (h : w ∣ W) : w * (W.fdiv w) = W := (div_back h).symm
theorem fdiv_nb {W w : Int} {A : Nat} (hw : 0 < w) (h : w ∣ W) (k : Nb A W) : Nb A (W.fdiv w) := by
  refine .part hw ?_
  rw [fdiv_back h]
  exact k
def fGrid (sg : Nat) : Fn := ⟨2, 2, true, (.cons (.ret (.tup (.cons (.call sg (some 0) (.cons (.var 1) .nil)) (.cons (.call sg (some 0) (.cons (.var 1) .nil)) (.cons (.lit (.int 1)) .nil))))) .nil)⟩
theorem run_grid {C : Ctx} {sg : Nat} {s : List Int} {cs : List D} {m : Int} (hg : SigS C sg) (hs : s.length ≤ 63) (hr : Row s cs) (h0 : 0 ≤ m) (hm : m < 1000000000) : ∃ x y cs', runFn C (fGrid sg) [.own cs, .val (.int m)] = .ok (Pt.d ⟨x, y, 1⟩) cs' ∧ Row s cs' ∧ Nb m.toNat x ∧ Nb m.toNat y := by
  obtain ⟨x, c1, e1, r1, x1, x2⟩ := hg s cs m hs hr h0 hm
  obtain ⟨y, c2, e2, r2, y1, y2⟩ := hg s c1 m hs r1 h0 hm
  refine ⟨x, y, c2, ?_, r2, by unfold Nb; omega, by unfold Nb; omega⟩
  simp (config := { maxDischargeDepth := 20 }) only [runFn, denS, den, denL, List.map, List.replicate, List.length_cons, List.length_nil, R.bind, R.of, R.way, D.tr, D.truth, getV, getO, ioOk, argsOf, afterCall, putIo, Option.isSome, Option.map, Option.bind, bindT, List.set, endOf, List.cons_append, List.nil_append, List.getElem?_cons_zero, List.getElem?_cons_succ, mul_L, add_L, sub_L, L.mul, L.sub, L.add, x_lst, x_tup, x_fz, c_lt, c_le, c_gt, c_ge, c_eq, c_ne, c_eqB, c_neB, c_isNI, c_isNB, p_int, p_abs, p_isInt, p_isIntB, p_isBool, p_isBoolB, p_isTup, p_isLst, p_isLstT, p_isSeqT, p_isSeqL, p_isSeqI, p_isSeqB, p_isStrI, p_isStrB, Nat.reduceAdd, Nat.reduceSub, decide_true, decide_false, Bool.not_true, Bool.not_false, Bool.not_not, fGrid, e1, e2, lim3, Pt.d, ↓reduceIte]
end Ev
set_option Elab.async false
set_option linter.all false
set_option maxRecDepth 100000
set_option maxHeartbeats 4000000
set_option autoImplicit false
/-! Pl8: points in general position, as the laws draw them. -/
namespace Ev
/-! ### statements one by one -/
def stm : Sm → Nat → Sm
  | .cons a _, 0 => a
  | .cons _ b, i + 1 => stm b i
  | _, _ => .nil
def drp : Sm → Nat → Sm
  | s, 0 => s
  | .cons _ b, i + 1 => drp b i
  | _, _ + 1 => .nil
theorem step {C : Ctx} {B : Sm} {i : Nat} {e e' : Env} (hd : drp B i = .cons (stm B i) (drp B (i + 1))) (h : denS C (stm B i) e = .ok .nx e') : denS C (drp B i) e = denS C (drp B (i + 1)) e' := by
  rw [hd]
  simp only [denS]
  rw [h]
  rfl
def bodyOf : Sm → Sm
  | .for_ _ _ b => b
  | .ite _ a _ => a
  | .whl _ b => b
  | s => s
theorem s_last {C : Ctx} {s : Sm} {e e' : Env} (h : denS C s e = .ok .nx e') : denS C (.cons s .nil) e = .ok .nx e' := by
  simp only [denS]
  rw [h]
  rfl
/-- a point of the grid, within bounds -/
structure Gd (A : Nat) (p : Pt) : Prop where
  w : p.w = 1
  x : Nb A p.x
  y : Nb A p.y
theorem Gd.le {A B : Nat} {p : Pt} (h : Gd A p) (k : A ≤ B) : Gd B p := ⟨h.w, h.x.le k, h.y.le k⟩
theorem Gd.sz {A : Nat} {p : Pt} (h : Gd A p) (hA : A < 2 ^ 64) : Sz p := ⟨h.x.S hA, h.y.S hA, S64.of (by rw [h.w]; decide)⟩
theorem Gd.pn {A : Nat} {p : Pt} (h : Gd A p) : Pn A 1 p := ⟨h.x, h.y, by unfold Nb; rw [h.w]; decide, by rw [h.w]; decide, by
  rw [h.w]
  unfold gcdI
  simp⟩
theorem Pn.sz {A B : Nat} {p : Pt} (h : Pn A B p) (hA : A < 2 ^ 64) (hB : B < 2 ^ 64) : Sz p := ⟨h.x.S hA, h.y.S hA, h.w.S hB⟩
abbrev lp (ps : List Pt) : List D := ps.map Pt.d
theorem dbl_swap (a b c : Pt) : dbl b a c = - dbl a b c := by unfold dbl; grind
theorem dbl_cyc (a b c : Pt) : dbl b c a = dbl a b c := by unfold dbl; grind
theorem dbl_aac (a c : Pt) : dbl a a c = 0 := by unfold dbl; grind
theorem dbl_aba (a b : Pt) : dbl a b a = 0 := by unfold dbl; grind
theorem dbl_abb (a b : Pt) : dbl a b b = 0 := by unfold dbl; grind
/-- no two equal, no three on a line -/
structure Gen (ps : List Pt) : Prop where
  nd : ps.Nodup
  g : ∀ a ∈ ps, ∀ b ∈ ps, ∀ c ∈ ps, a ≠ b → a ≠ c → b ≠ c → dbl a b c ≠ 0
theorem Gen.nil : Gen [] := ⟨List.nodup_nil, fun a h => by cases h⟩
/-- what a new point must not be -/
def New (ps : List Pt) (p : Pt) : Prop := p ∉ ps ∧ ∀ i q r, q ∈ ps.take i → ps[i]? = some r → dbl q r p ≠ 0
theorem Gen.put {ps : List Pt} {p : Pt} (h : Gen ps) (k : New ps p) : Gen (ps ++ [p]) := by
  have two : ∀ a ∈ ps, ∀ b ∈ ps, a ≠ b → dbl a b p ≠ 0 := fun a ha b hb hab => by
    obtain ⟨i, hi⟩ := List.mem_iff_getElem?.mp ha
    obtain ⟨j, hj⟩ := List.mem_iff_getElem?.mp hb
    have tk : ∀ {x : Pt} {i j : Nat}, i < j → ps[i]? = some x → x ∈ ps.take j := fun {x i j} hij hx => by
      refine List.mem_of_getElem? (i := i) ?_
      rw [List.getElem?_take_of_lt hij]
      exact hx
    rcases Nat.lt_trichotomy i j with z | z | z
    · exact k.2 j a b (tk z hi) hj
    · rw [z, hj] at hi
      exact absurd (Option.some.inj hi).symm hab
    · have := k.2 i b a (tk z hj) hi
      rw [dbl_swap] at this
      omega
  refine ⟨?_, fun a ha b hb c hc hab hac hbc => ?_⟩
  · rw [List.nodup_append]
    refine ⟨h.nd, List.nodup_cons.mpr ⟨fun z => (by cases z), List.nodup_nil⟩, fun x hx y hy z => ?_⟩
    rw [List.mem_singleton.mp hy] at z
    exact k.1 (by rw [← z]; exact hx)
  · have one : ∀ {x : Pt}, x ∈ ps ++ [p] → x ∈ ps ∨ x = p := fun hx => (List.mem_append.mp hx).imp id List.mem_singleton.mp
    rcases one ha with ha1 | ha1
    · rcases one hb with hb1 | hb1
      · rcases one hc with hc1 | hc1
        · exact h.g a ha1 b hb1 c hc1 hab hac hbc
        · rw [hc1]; exact two a ha1 b hb1 hab
      · rcases one hc with hc1 | hc1
        · have := two c hc1 a ha1 (fun z => hac z.symm)
          rw [hb1, dbl_cyc c a p]
          exact this
        · exact absurd (hb1.trans hc1.symm) hbc
    · rcases one hb with hb1 | hb1
      · rcases one hc with hc1 | hc1
        · have := two b hb1 c hc1 hbc
          rw [ha1, ← dbl_cyc p b c]
          exact this
        · exact absurd (ha1.trans hc1.symm) hac
      · exact absurd (ha1.trans hb1.symm) hab
def fGeneral (tk pk gr tn : Nat) : Fn := ⟨3, 11, true, (.cons (.parN [3, 4, 5] [true, false, false] (.cons (.lst .nil) (.cons (.bin .add (.var 1) (.call tk (some 0) (.cons (.bin .add (.bin .sub (.var 2) (.var 1)) (.lit (.int 1))) .nil))) (.cons (.call pk (some 0) (.cons (.lst (.cons (.lit (.int 4)) (.cons (.lit (.int 6)) (.cons (.lit (.int 9)) .nil)))) .nil)) .nil)))) (.cons (.for_ (.nm 6) (.rng1 (.bin .mul (.lit (.int 3)) (.var 4))) (.cons (.asg (.nm 7) (.call gr (some 0) (.cons (.var 5) .nil))) (.cons (.asg (.nm 8) (.lend 3 (.cmp .mem (.var 7) (.var 3)))) (.cons (.for_ (.nm 9) (.rng1 (.olen 3)) (.cons (.asg (.nm 8) (.or (.var 8) (.lend 3 (.cmp .ne (.lc [10] (.nm 10) (.items (.sl (.var 3) (.lit .non) (.var 9))) (.cmp .eq (.call tn none (.cons (.var 10) (.cons (.ix (.var 3) (.var 9)) (.cons (.var 7) .nil)))) (.lit (.int 0))) (.var 10)) (.lst .nil))))) .nil)) (.cons (.ite (.and (.not (.var 8)) (.cmp .lt (.olen 3) (.var 4))) (.cons (.app 3 (.var 7)) .nil) .nil) .nil))))) (.cons (.for_ (.nm 6) (.rng1 (.lit (.int 40))) (.cons (.asg (.nm 7) (.tup (.cons (.var 6) (.cons (.bin .add (.bin .mul (.var 6) (.var 6)) (.lit (.int 11))) (.cons (.lit (.int 1)) .nil))))) (.cons (.asg (.nm 8) (.lend 3 (.cmp .mem (.var 7) (.var 3)))) (.cons (.for_ (.nm 9) (.rng1 (.olen 3)) (.cons (.asg (.nm 8) (.or (.var 8) (.lend 3 (.cmp .ne (.lc [10] (.nm 10) (.items (.sl (.var 3) (.lit .non) (.var 9))) (.cmp .eq (.call tn none (.cons (.var 10) (.cons (.ix (.var 3) (.var 9)) (.cons (.var 7) .nil)))) (.lit (.int 0))) (.var 10)) (.lst .nil))))) .nil)) (.cons (.ite (.and (.not (.var 8)) (.cmp .lt (.olen 3) (.var 4))) (.cons (.app 3 (.var 7)) .nil) .nil) .nil))))) (.cons (.ret (.prim .tuple (.cons (.var 3) .nil))) .nil))))⟩
def TriS (C : Ctx) (f : Nat) : Prop := ∀ a b c : Pt, Gd 1600 a → Gd 1600 b → Gd 1600 c → C.call f [.val a.d, .val b.d, .val c.d] = .ok (.int (sgn (dbl a b c))) []
def GrdS (C : Ctx) (f : Nat) : Prop := ∀ (s : List Int) (cs : List D) (m : Int), s.length ≤ 63 → Row s cs → 0 ≤ m → m < 1000000000 → ∃ x y cs', C.call f [.own cs, .val (.int m)] = .ok (Pt.d ⟨x, y, 1⟩) cs' ∧ Row s cs' ∧ Nb m.toNat x ∧ Nb m.toNat y
section
variable {C : Ctx} {tk pk gr tn : Nat} {s : List Int} {cs : List D}
def gEn (cs : List D) (ps : List Pt) (lo hi many size : Int) (s6 s7 s8 s9 : Option Sl) : Env := [some (.own cs), some (.val (.int lo)), some (.val (.int hi)), some (.own (lp ps)), some (.val (.int many)), some (.val (.int size)), s6, s7, s8, s9, none]
def gIn (tn : Nat) : Sm := bodyOf (stm (bodyOf (stm (fGeneral 0 0 0 tn).body 1)) 2)
/-- bad, once j pairs' last points are looked at -/
def bad (ps : List Pt) (p : Pt) (j : Nat) : Bool := decide (p ∈ ps) || (List.range j).any fun i => (ps.take i).any fun q => (ps[i]?).any fun r => decide (dbl q r p = 0)
theorem bad_new {ps : List Pt} {p : Pt} (h : bad ps p ps.length = false) : New ps p := by
  unfold bad at h
  rw [Bool.or_eq_false_iff] at h
  obtain ⟨h1, h2⟩ := h
  refine ⟨of_decide_eq_false h1, fun i q r hq hr z => ?_⟩
  rw [List.any_eq_false] at h2
  have hi : i < ps.length := (List.getElem?_eq_some_iff.mp hr).1
  refine h2 i (List.mem_range.mpr hi) ?_
  rw [List.any_eq_true]
  exact ⟨q, hq, by rw [hr]; exact decide_eq_true z⟩
theorem bad_short {ps : List Pt} {p : Pt} (h : bad ps p ps.length = true) (hl : ps.length < 2) : p ∈ ps := by
  unfold bad at h
  rw [Bool.or_eq_true] at h
  rcases h with h | h
  · exact of_decide_eq_true h
  · rw [List.any_eq_true] at h
    obtain ⟨i, hi, h⟩ := h
    have hi := List.mem_range.mp hi
    have : i = 0 := by omega
    rw [this] at h
    simp at h
theorem range_any_succ {f : Nat → Bool} {j : Nat} : (List.range (j + 1)).any f = ((List.range j).any f || f j) := by
  rw [List.range_succ, List.any_append]
  simp
theorem cut_take {ps : List Pt} {j : Nat} (h : j ≤ ps.length) : slop (.lst (lp ps)) none (some (j : Int)) = some (.lst (lp (ps.take j))) := by
  show some (D.lst (cutOf (lp ps) none (some (j : Int)))) = _
  congr 2
  unfold cutOf cutAt
  simp only [List.drop_zero, Nat.sub_zero]
  show ((lp ps).take (min j (lp ps).length)) = _
  rw [List.length_map, Nat.min_eq_left h, ← List.map_take]
theorem at_pt {ps : List Pt} {j : Nat} {r : Pt} (h : ps[j]? = some r) : at_ (lp ps) (j : Int) = some r.d := by
  have hj : j < ps.length := (List.getElem?_eq_some_iff.mp h).1
  unfold at_
  show (place (lp ps).length (Int.ofNat j)).bind _ = _
  rw [place_nn (by rw [List.length_map]; exact hj)]
  show (lp ps)[j]? = _
  rw [List.getElem?_map, h]
  rfl
theorem in_turn {ps : List Pt} {p : Pt} {lo hi many size : Int} {s6 : Option Sl} {s9 : Option Sl} {j : Nat} (ht : TriS C tn) (hr : Row s cs) (hg : ∀ q ∈ ps, Gd 1600 q) (hp : Gd 1600 p) (h6 : SlOk s6) (hl : ps.length ≤ 1000) (hj : j < ps.length) :
    denS C (gIn tn) (gEn cs ps lo hi many size s6 (some (.val p.d)) (some (.val (.bl (bad ps p j)))) (some (.val (.int j)))) = .ok .nx (gEn cs ps lo hi many size s6 (some (.val p.d)) (some (.val (.bl (bad ps p (j + 1))))) (some (.val (.int j)))) := by
  have hb : bad ps p (j + 1) = (bad ps p j || (ps.take j).any fun q => (ps[j]?).any fun r => decide (dbl q r p = 0)) := by
    unfold bad
    rw [range_any_succ, Bool.or_assoc]
  cases hbj : bad ps p j with
  | true =>
    rw [hbj, Bool.true_or] at hb
    rw [hb]
    simp (config := { maxDischargeDepth := 20 }) only [runFn, denS, den, denL, List.map, List.replicate, List.length_cons, List.length_nil, R.bind, R.of, R.way, D.tr, D.truth, getV, getO, ioOk, argsOf, afterCall, putIo, Option.isSome, Option.map, Option.bind, bindT, List.set, endOf, List.cons_append, List.nil_append, List.getElem?_cons_zero, List.getElem?_cons_succ, mul_L, add_L, sub_L, L.mul, L.sub, L.add, x_lst, x_tup, x_fz, c_lt, c_le, c_gt, c_ge, c_eq, c_ne, c_eqB, c_neB, c_isNI, c_isNB, p_int, p_abs, p_isInt, p_isIntB, p_isBool, p_isBoolB, p_isTup, p_isLst, p_isLstT, p_isSeqT, p_isSeqL, p_isSeqI, p_isSeqB, p_isStrI, p_isStrB, Nat.reduceAdd, Nat.reduceSub, decide_true, decide_false, Bool.not_true, Bool.not_false, Bool.not_not, gIn, bodyOf, stm, fGeneral, gEn]
  | false =>
    rw [hbj, Bool.false_or] at hb
    have hr0 : ps[j]? = some ps[j] := List.getElem?_eq_getElem hj
    have gr0 : Gd 1600 ps[j] := hg _ (List.getElem_mem hj)
    rw [hr0] at hb
    have hat := at_pt hr0
    generalize ps[j] = r at *
    have hb : bad ps p (j + 1) = (ps.take j).any fun q => decide (dbl q r p = 0) := hb
    have f1 := row_flat hr
    have f2 := flats_pts ps
    have lz : den C (.lc [10] (.nm 10) (.items (.sl (.var 3) (.lit .non) (.var 9))) (.cmp .eq (.call tn none (.cons (.var 10) (.cons (.ix (.var 3) (.var 9)) (.cons (.var 7) .nil)))) (.lit (.int 0))) (.var 10)) [some (.own cs), some (.val (.int lo)), some (.val (.int hi)), some (.val (.lst (lp ps))), some (.val (.int many)), some (.val (.int size)), s6, some (.val p.d), some (.val (.bl false)), some (.val (.int j)), none] =
        .ok (.lst (((lp (ps.take j)).filter fun d => match d with
          | .tup [.int x, .int y, .int w] => decide (dbl ⟨x, y, w⟩ r p = 0)
          | _ => false).map id)) [some (.own cs), some (.val (.int lo)), some (.val (.int hi)), some (.val (.lst (lp ps))), some (.val (.int many)), some (.val (.int size)), s6, some (.val p.d), some (.val (.bl false)), some (.val (.int j)), none] := by
      refine lc_nm (ds := lp (ps.take j)) ?_ rfl ?_ ?_ ?_
      · have sc := cut_take (ps := ps) (j := j) (by omega)
        simp (config := { maxDischargeDepth := 20 }) only [runFn, denS, den, denL, List.map, List.replicate, List.length_cons, List.length_nil, R.bind, R.of, R.way, D.tr, D.truth, getV, getO, ioOk, argsOf, afterCall, putIo, Option.isSome, Option.map, Option.bind, bindT, List.set, endOf, List.cons_append, List.nil_append, List.getElem?_cons_zero, List.getElem?_cons_succ, mul_L, add_L, sub_L, L.mul, L.sub, L.add, x_lst, x_tup, x_fz, c_lt, c_le, c_gt, c_ge, c_eq, c_ne, c_eqB, c_neB, c_isNI, c_isNB, p_int, p_abs, p_isInt, p_isIntB, p_isBool, p_isBoolB, p_isTup, p_isLst, p_isLstT, p_isSeqT, p_isSeqL, p_isSeqI, p_isSeqB, p_isStrI, p_isStrB, Nat.reduceAdd, Nat.reduceSub, decide_true, decide_false, Bool.not_true, Bool.not_false, Bool.not_not, partR, noneB, sc]
      · intro d hd
        obtain ⟨q, hq, rfl⟩ := List.mem_map.mp hd
        have gq : Gd 1600 q := hg q (List.mem_of_mem_take hq)
        have tq := ht q r p gq gr0 hp
        have z : decide (sgn (dbl q r p) = 0) = decide (dbl q r p = 0) := by
          have := sgn_cases (dbl q r p)
          by_cases c : dbl q r p = 0
          · rw [decide_eq_true c]; exact decide_eq_true (by omega)
          · rw [decide_eq_false c]; exact decide_eq_false (by omega)
        have e : (match q.d with
          | .tup [.int x, .int y, .int w] => decide (dbl ⟨x, y, w⟩ r p = 0)
          | _ => false) = decide (dbl q r p = 0) := rfl
        rw [e]
        simp (config := { maxDischargeDepth := 20 }) only [runFn, denS, den, denL, List.map, List.replicate, List.length_cons, List.length_nil, R.bind, R.of, R.way, D.tr, D.truth, getV, getO, ioOk, argsOf, afterCall, putIo, Option.isSome, Option.map, Option.bind, bindT, List.set, endOf, List.cons_append, List.nil_append, List.getElem?_cons_zero, List.getElem?_cons_succ, mul_L, add_L, sub_L, L.mul, L.sub, L.add, x_lst, x_tup, x_fz, c_lt, c_le, c_gt, c_ge, c_eq, c_ne, c_eqB, c_neB, c_isNI, c_isNB, p_int, p_abs, p_isInt, p_isIntB, p_isBool, p_isBoolB, p_isTup, p_isLst, p_isLstT, p_isSeqT, p_isSeqL, p_isSeqI, p_isSeqB, p_isStrI, p_isStrB, Nat.reduceAdd, Nat.reduceSub, decide_true, decide_false, Bool.not_true, Bool.not_false, Bool.not_not, hat, tq, z]
      · intro d hd _
        simp (config := { maxDischargeDepth := 20 }) only [runFn, denS, den, denL, List.map, List.replicate, List.length_cons, List.length_nil, R.bind, R.of, R.way, D.tr, D.truth, getV, getO, ioOk, argsOf, afterCall, putIo, Option.isSome, Option.map, Option.bind, bindT, List.set, endOf, List.cons_append, List.nil_append, List.getElem?_cons_zero, List.getElem?_cons_succ, mul_L, add_L, sub_L, L.mul, L.sub, L.add, x_lst, x_tup, x_fz, c_lt, c_le, c_gt, c_ge, c_eq, c_ne, c_eqB, c_neB, c_isNI, c_isNB, p_int, p_abs, p_isInt, p_isIntB, p_isBool, p_isBoolB, p_isTup, p_isLst, p_isLstT, p_isSeqT, p_isSeqL, p_isSeqI, p_isSeqB, p_isStrI, p_isStrB, Nat.reduceAdd, Nat.reduceSub, decide_true, decide_false, Bool.not_true, Bool.not_false, Bool.not_not]
        rfl
      · rw [List.length_map, List.length_take]
        exact Nat.le_trans (Nat.min_le_right _ _) (Nat.le_trans hl (by decide))
    have fl : ∀ l : List D, cmpop .ne (.lst l) (.lst []) = (if D.shs 60 l = true then some (!l.isEmpty) else none) := fun l => by
      show (if (D.sh 60 (.lst l) && D.sh 60 (.lst [])) = true then some (!D.eqv (.lst l) (.lst [])) else none) = _
      have e1 : D.sh 60 (.lst l) = D.shs 60 l := by unfold D.sh; rfl
      have e2 : D.sh 60 (.lst []) = true := by simp [D.sh, D.shs]
      rw [e1, e2, Bool.and_true]
      cases l with
      | nil => simp [D.eqv, D.eqvs]
      | cons _ _ => simp [D.eqv, D.eqvs]
    have sh : D.shs 60 (((lp (ps.take j)).filter fun d => match d with
          | .tup [.int x, .int y, .int w] => decide (dbl ⟨x, y, w⟩ r p = 0)
          | _ => false).map id) = true := by
      rw [List.map_id, List.filter_map]
      exact shs_pts _
    have em : (!(((lp (ps.take j)).filter fun d => match d with
          | .tup [.int x, .int y, .int w] => decide (dbl ⟨x, y, w⟩ r p = 0)
          | _ => false).map id).isEmpty) = bad ps p (j + 1) := by
      rw [hb, List.map_id, List.filter_map, List.isEmpty_map]
      have : ((fun d => match d with
          | D.tup [.int x, .int y, .int w] => decide (dbl ⟨x, y, w⟩ r p = 0)
          | _ => false) ∘ Pt.d) = fun q => decide (dbl q r p = 0) := rfl
      rw [this]
      induction ps.take j with
      | nil => rfl
      | cons q l ih =>
        rw [List.any_cons]
        by_cases c : dbl q r p = 0
        · rw [List.filter_cons_of_pos (by simpa using c)]
          simp [c]
        · rw [List.filter_cons_of_neg (by simpa using c)]
          simp [c, ih]
    have cn : cmpop .ne (.lst (((lp (ps.take j)).filter fun d => match d with
          | .tup [.int x, .int y, .int w] => decide (dbl ⟨x, y, w⟩ r p = 0)
          | _ => false).map id)) (.lst []) = some (bad ps p (j + 1)) := by
      rw [fl, if_pos sh, em]
    unfold SlOk at h6
    show denS C (.cons (.asg (.nm 8) (.or (.var 8) (.lend 3 (.cmp .ne (.lc [10] (.nm 10) (.items (.sl (.var 3) (.lit .non) (.var 9))) (.cmp .eq (.call tn none (.cons (.var 10) (.cons (.ix (.var 3) (.var 9)) (.cons (.var 7) .nil)))) (.lit (.int 0))) (.var 10)) (.lst .nil))))) .nil) _ = _
    have cm : den C (.cmp .ne (.lc [10] (.nm 10) (.items (.sl (.var 3) (.lit .non) (.var 9))) (.cmp .eq (.call tn none (.cons (.var 10) (.cons (.ix (.var 3) (.var 9)) (.cons (.var 7) .nil)))) (.lit (.int 0))) (.var 10)) (.lst .nil)) [some (.own cs), some (.val (.int lo)), some (.val (.int hi)), some (.val (.lst (lp ps))), some (.val (.int many)), some (.val (.int size)), s6, some (.val p.d), some (.val (.bl false)), some (.val (.int j)), none] = .ok (.bl (bad ps p (j + 1))) [some (.own cs), some (.val (.int lo)), some (.val (.int hi)), some (.val (.lst (lp ps))), some (.val (.int many)), some (.val (.int size)), s6, some (.val p.d), some (.val (.bl false)), some (.val (.int j)), none] := by
      show ((den C (.lc [10] (.nm 10) (.items (.sl (.var 3) (.lit .non) (.var 9))) (.cmp .eq (.call tn none (.cons (.var 10) (.cons (.ix (.var 3) (.var 9)) (.cons (.var 7) .nil)))) (.lit (.int 0))) (.var 10)) _).bind fun x e => (den C (.lst .nil) e).bind fun y e => R.of ((cmpop .ne x y).map D.bl) e) = _
      rw [lz]
      show R.of ((cmpop .ne _ (.lst [])).map D.bl) _ = _
      rw [cn]
      rfl
    have ln : den C (.lend 3 (.cmp .ne (.lc [10] (.nm 10) (.items (.sl (.var 3) (.lit .non) (.var 9))) (.cmp .eq (.call tn none (.cons (.var 10) (.cons (.ix (.var 3) (.var 9)) (.cons (.var 7) .nil)))) (.lit (.int 0))) (.var 10)) (.lst .nil))) (gEn cs ps lo hi many size s6 (some (.val p.d)) (some (.val (.bl false))) (some (.val (.int j)))) = .ok (.bl (bad ps p (j + 1))) (gEn cs ps lo hi many size s6 (some (.val p.d)) (some (.val (.bl false))) (some (.val (.int j)))) := by
      show ((den C (.cmp .ne (.lc [10] (.nm 10) (.items (.sl (.var 3) (.lit .non) (.var 9))) (.cmp .eq (.call tn none (.cons (.var 10) (.cons (.ix (.var 3) (.var 9)) (.cons (.var 7) .nil)))) (.lit (.int 0))) (.var 10)) (.lst .nil)) [some (.own cs), some (.val (.int lo)), some (.val (.int hi)), some (.val (.lst (lp ps))), some (.val (.int many)), some (.val (.int size)), s6, some (.val p.d), some (.val (.bl false)), some (.val (.int j)), none]).bind fun d e1 => if (d.flat && lendOk 3 0 (gEn cs ps lo hi many size s6 (some (.val p.d)) (some (.val (.bl false))) (some (.val (.int j)))) e1) = true then R.ok d (e1.set 3 (some (Sl.own (lp ps)))) else .no) = _
      rw [cm]
      show (if (D.flat (.bl _) && lendOk 3 0 (gEn cs ps lo hi many size s6 (some (.val p.d)) (some (.val (.bl false))) (some (.val (.int j)))) _) = true then _ else _) = _
      rw [if_pos (by simp only [gEn, lo0, lo1, iv1, iv2, iv3, sf1, sf2, sf3, fl_int, fl_bl, fl_non, Nat.reduceAdd, Nat.reduceBEq, Bool.or_true, Bool.true_or, Bool.and_self, Bool.or_false, Bool.false_or, Bool.true_and, Bool.and_true, f1, f2, h6])]
      rfl
    refine s_last ?_
    show ((den C (.or (.var 8) (.lend 3 (.cmp .ne (.lc [10] (.nm 10) (.items (.sl (.var 3) (.lit .non) (.var 9))) (.cmp .eq (.call tn none (.cons (.var 10) (.cons (.ix (.var 3) (.var 9)) (.cons (.var 7) .nil)))) (.lit (.int 0))) (.var 10)) (.lst .nil)))) _).bind fun d e => match bindT (.nm 8) d e with
      | some e => R.ok Fl.nx e
      | none => .no) = _
    show (((den C (.lend 3 (.cmp .ne (.lc [10] (.nm 10) (.items (.sl (.var 3) (.lit .non) (.var 9))) (.cmp .eq (.call tn none (.cons (.var 10) (.cons (.ix (.var 3) (.var 9)) (.cons (.var 7) .nil)))) (.lit (.int 0))) (.var 10)) (.lst .nil))) (gEn cs ps lo hi many size s6 (some (.val p.d)) (some (.val (.bl false))) (some (.val (.int j)))))).bind fun d e => match bindT (.nm 8) d e with
      | some e => R.ok Fl.nx e
      | none => .no) = _
    rw [ln]
    rfl
end
end Ev
set_option Elab.async false
set_option linter.all false
set_option maxRecDepth 100000
set_option maxHeartbeats 4000000
set_option autoImplicit false
/-! Pl9: points in general position, drawn and moved. -/
namespace Ev
section
variable {C : Ctx} {tk pk gr tn : Nat} {s : List Int} {cs : List D}
def gB1 (gr tn : Nat) : Sm := bodyOf (stm (fGeneral 0 0 gr tn).body 1)
def gB2 (tn : Nat) : Sm := bodyOf (stm (fGeneral 0 0 0 tn).body 2)
def gput (ps : List Pt) (p : Pt) (many : Int) : List Pt := if bad ps p ps.length = false ∧ (ps.length : Int) < many then ps ++ [p] else ps
theorem gtail {ps : List Pt} {p : Pt} {lo hi many size : Int} {s6 s8 s9 : Option Sl} (B : Sm) (hB : drp B 1 = drp (gB1 gr tn) 1) (ht : TriS C tn) (hr : Row s cs) (hg : ∀ q ∈ ps, Gd 1600 q) (hp : Gd 1600 p) (h6 : SlOk s6) (h8 : SlOk s8) (h9 : SlOk s9) (hl : ps.length ≤ 1000) :
    ∃ t9, denS C (drp B 1) (gEn cs ps lo hi many size s6 (some (.val p.d)) s8 s9) = .ok .nx (gEn cs (gput ps p many) lo hi many size s6 (some (.val p.d)) (some (.val (.bl (bad ps p ps.length)))) t9) ∧ SlOk t9 := by
  rw [hB]
  have f1 := row_flat hr
  have f2 := flats_pts ps
  have q1 := c_memP (p := p) (ps := ps)
  have q2 := len_pts (ps := ps) (by omega)
  have e1 : denS C (stm (gB1 gr tn) 1) (gEn cs ps lo hi many size s6 (some (.val p.d)) s8 s9) = .ok .nx (gEn cs ps lo hi many size s6 (some (.val p.d)) (some (.val (.bl (bad ps p 0)))) s9) := by
    have b0 : bad ps p 0 = decide (p ∈ ps) := by simp [bad]
    rw [b0]
    unfold SlOk at h6 h8 h9
    simp (config := { maxDischargeDepth := 20 }) only [runFn, denS, den, denL, List.map, List.replicate, List.length_cons, List.length_nil, R.bind, R.of, R.way, D.tr, D.truth, getV, getO, ioOk, argsOf, afterCall, putIo, Option.isSome, Option.map, Option.bind, bindT, List.set, endOf, List.cons_append, List.nil_append, List.getElem?_cons_zero, List.getElem?_cons_succ, mul_L, add_L, sub_L, L.mul, L.sub, L.add, x_lst, x_tup, x_fz, c_lt, c_le, c_gt, c_ge, c_eq, c_ne, c_eqB, c_neB, c_isNI, c_isNB, p_int, p_abs, p_isInt, p_isIntB, p_isBool, p_isBoolB, p_isTup, p_isLst, p_isLstT, p_isSeqT, p_isSeqL, p_isSeqI, p_isSeqB, p_isStrI, p_isStrB, Nat.reduceAdd, Nat.reduceSub, decide_true, decide_false, Bool.not_true, Bool.not_false, Bool.not_not, gB1, bodyOf, stm, fGeneral, gEn, q1, lo0, lo1, iv1, iv2, iv3, sf1, sf2, sf3, fl_int, fl_bl, fl_non, Nat.reduceAdd, Nat.reduceBEq, Bool.or_true, Bool.true_or, Bool.and_self, Bool.or_false, Bool.false_or, Bool.true_and, Bool.and_true, f1, f2, h6, h8, h9, ↓reduceIte]
  obtain ⟨e', k1, t9, rfl, k2⟩ := for_all (t := .nm 9) (b := denS C (gIn tn)) (ds := range_ 0 ps.length) (e := gEn cs ps lo hi many size s6 (some (.val p.d)) (some (.val (.bl (bad ps p 0)))) s9) (fun j e => ∃ t9, e = gEn cs ps lo hi many size s6 (some (.val p.d)) (some (.val (.bl (bad ps p j)))) t9 ∧ SlOk t9) ⟨s9, rfl, h9⟩ (fun j d e hd hi => by
    obtain ⟨hj, rfl⟩ := rng_some hd
    obtain ⟨t9, rfl, _⟩ := hi
    rw [Int.zero_add]
    exact ⟨_, _, rfl, in_turn (s9 := none) ht hr hg hp h6 hl hj, _, rfl, .val⟩)
  rw [rng_len] at k1
  have e2 : denS C (stm (gB1 gr tn) 2) (gEn cs ps lo hi many size s6 (some (.val p.d)) (some (.val (.bl (bad ps p 0)))) s9) = .ok .nx (gEn cs ps lo hi many size s6 (some (.val p.d)) (some (.val (.bl (bad ps p ps.length)))) t9) := by
    show denS C (.for_ (.nm 9) (.rng1 (.olen 3)) (gIn tn)) _ = _
    refine s_for (ds := range_ 0 ps.length) ?_ k1
    have hr : rangeOk 0 (ps.length : Int) = true := by
      unfold rangeOk
      exact decide_eq_true (by omega)
    simp (config := { maxDischargeDepth := 20 }) only [runFn, denS, den, denL, List.map, List.replicate, List.length_cons, List.length_nil, R.bind, R.of, R.way, D.tr, D.truth, getV, getO, ioOk, argsOf, afterCall, putIo, Option.isSome, Option.map, Option.bind, bindT, List.set, endOf, List.cons_append, List.nil_append, List.getElem?_cons_zero, List.getElem?_cons_succ, mul_L, add_L, sub_L, L.mul, L.sub, L.add, x_lst, x_tup, x_fz, c_lt, c_le, c_gt, c_ge, c_eq, c_ne, c_eqB, c_neB, c_isNI, c_isNB, p_int, p_abs, p_isInt, p_isIntB, p_isBool, p_isBoolB, p_isTup, p_isLst, p_isLstT, p_isSeqT, p_isSeqL, p_isSeqI, p_isSeqB, p_isStrI, p_isStrB, Nat.reduceAdd, Nat.reduceSub, decide_true, decide_false, Bool.not_true, Bool.not_false, Bool.not_not, gEn, q2, hr, Int.toNat_natCast, ↓reduceIte]
  refine ⟨t9, ?_, k2⟩
  refine Eq.trans (step (B := gB1 gr tn) (i := 1) rfl e1) ?_
  refine Eq.trans (step (B := gB1 gr tn) (i := 2) rfl e2) ?_
  show denS C (.cons (.ite (.and (.not (.var 8)) (.cmp .lt (.olen 3) (.var 4))) (.cons (.app 3 (.var 7)) .nil) .nil) .nil) _ = _
  refine s_last ?_
  unfold gput
  have ap : (lp ps).length < lim := by rw [List.length_map]; exact Nat.lt_of_le_of_lt hl (by decide)
  cases hb : bad ps p ps.length with
  | true =>
    rw [if_neg (fun z => by cases z.1)]
    simp (config := { maxDischargeDepth := 20 }) only [runFn, denS, den, denL, List.map, List.replicate, List.length_cons, List.length_nil, R.bind, R.of, R.way, D.tr, D.truth, getV, getO, ioOk, argsOf, afterCall, putIo, Option.isSome, Option.map, Option.bind, bindT, List.set, endOf, List.cons_append, List.nil_append, List.getElem?_cons_zero, List.getElem?_cons_succ, mul_L, add_L, sub_L, L.mul, L.sub, L.add, x_lst, x_tup, x_fz, c_lt, c_le, c_gt, c_ge, c_eq, c_ne, c_eqB, c_neB, c_isNI, c_isNB, p_int, p_abs, p_isInt, p_isIntB, p_isBool, p_isBoolB, p_isTup, p_isLst, p_isLstT, p_isSeqT, p_isSeqL, p_isSeqI, p_isSeqB, p_isStrI, p_isStrB, Nat.reduceAdd, Nat.reduceSub, decide_true, decide_false, Bool.not_true, Bool.not_false, Bool.not_not, gEn]
  | false =>
    by_cases c2 : (ps.length : Int) < many
    · rw [if_pos ⟨rfl, c2⟩]
      have c3 : decide ((ps.length : Int) < many) = true := decide_eq_true c2
      simp (config := { maxDischargeDepth := 20 }) only [runFn, denS, den, denL, List.map, List.replicate, List.length_cons, List.length_nil, R.bind, R.of, R.way, D.tr, D.truth, getV, getO, ioOk, argsOf, afterCall, putIo, Option.isSome, Option.map, Option.bind, bindT, List.set, endOf, List.cons_append, List.nil_append, List.getElem?_cons_zero, List.getElem?_cons_succ, mul_L, add_L, sub_L, L.mul, L.sub, L.add, x_lst, x_tup, x_fz, c_lt, c_le, c_gt, c_ge, c_eq, c_ne, c_eqB, c_neB, c_isNI, c_isNB, p_int, p_abs, p_isInt, p_isIntB, p_isBool, p_isBoolB, p_isTup, p_isLst, p_isLstT, p_isSeqT, p_isSeqL, p_isSeqI, p_isSeqB, p_isStrI, p_isStrB, Nat.reduceAdd, Nat.reduceSub, decide_true, decide_false, Bool.not_true, Bool.not_false, Bool.not_not, gEn, q2, c3, ap, List.map_append, ↓reduceIte]
    · rw [if_neg (fun z => c2 z.2)]
      have c3 : decide ((ps.length : Int) < many) = false := decide_eq_false c2
      simp (config := { maxDischargeDepth := 20 }) only [runFn, denS, den, denL, List.map, List.replicate, List.length_cons, List.length_nil, R.bind, R.of, R.way, D.tr, D.truth, getV, getO, ioOk, argsOf, afterCall, putIo, Option.isSome, Option.map, Option.bind, bindT, List.set, endOf, List.cons_append, List.nil_append, List.getElem?_cons_zero, List.getElem?_cons_succ, mul_L, add_L, sub_L, L.mul, L.sub, L.add, x_lst, x_tup, x_fz, c_lt, c_le, c_gt, c_ge, c_eq, c_ne, c_eqB, c_neB, c_isNI, c_isNB, p_int, p_abs, p_isInt, p_isIntB, p_isBool, p_isBoolB, p_isTup, p_isLst, p_isLstT, p_isSeqT, p_isSeqL, p_isSeqI, p_isSeqB, p_isStrI, p_isStrB, Nat.reduceAdd, Nat.reduceSub, decide_true, decide_false, Bool.not_true, Bool.not_false, Bool.not_not, gEn, q2, c3, ↓reduceIte]
structure Ps (many : Int) (ps : List Pt) : Prop where
  len : (ps.length : Int) ≤ many
  gen : Gen ps
  gd : ∀ q ∈ ps, Gd 1600 q
theorem Ps.put {many : Int} {ps : List Pt} {p : Pt} (h : Ps many ps) (hp : Gd 1600 p) : Ps many (gput ps p many) := by
  unfold gput
  split
  · rename_i c
    refine ⟨?_, h.gen.put (bad_new c.1), fun q hq => ?_⟩
    · rw [List.length_append]
      show ((ps.length + 1 : Nat) : Int) ≤ many
      omega
    · rcases List.mem_append.mp hq with hq | hq
      · exact h.gd q hq
      · rw [List.mem_singleton.mp hq]; exact hp
  · exact h
def qg (j : Nat) : Pt := ⟨(j : Int), (j : Int) * (j : Int) + 11, 1⟩
theorem qg_gd {j : Nat} (h : j < 40) : Gd 1600 (qg j) := by
  refine ⟨rfl, ?_, ?_⟩
  · show (j : Int).natAbs ≤ _
    omega
  · show ((j : Int) * (j : Int) + 11).natAbs ≤ _
    have : (j : Int) * (j : Int) ≤ 39 * 39 := Int.mul_le_mul (by omega) (by omega) (by omega) (by omega)
    have : 0 ≤ (j : Int) * (j : Int) := Int.mul_nonneg (by omega) (by omega)
    omega
def gI (s : List Int) (lo hi many size : Int) (e : Env) : Prop := ∃ cs ps s6 s7 s8 s9, e = gEn cs ps lo hi many size s6 s7 s8 s9 ∧ Row s cs ∧ Ps many ps ∧ SlOk s7 ∧ SlOk s8 ∧ SlOk s9
theorem gturn1 {lo hi many size i : Int} {e : Env} (hgr : GrdS C gr) (ht : TriS C tn) (hs : s.length ≤ 63) (hm : many ≤ 1000) (z0 : 0 ≤ size) (z1 : size ≤ 9) (h : gI s lo hi many size e) :
    ∃ e1 e2, bindT (.nm 6) (.int i) e = some e1 ∧ denS C (gB1 gr tn) e1 = .ok .nx e2 ∧ gI s lo hi many size e2 := by
  obtain ⟨cs, ps, s6, s7, s8, s9, rfl, hr, hp, h7, h8, h9⟩ := h
  obtain ⟨x, y, c1, e1, r1, x1, y1⟩ := hgr s cs size hs hr z0 (by omega)
  have gp : Gd 1600 ⟨x, y, 1⟩ := ⟨rfl, x1.le (by omega), y1.le (by omega)⟩
  have hl := hp.len
  obtain ⟨t9, e2, k9⟩ := gtail (cs := c1) (lo := lo) (hi := hi) (many := many) (size := size) (s6 := some (.val (.int i))) (s8 := s8) (s9 := s9) (gr := gr) (gB1 gr tn) rfl ht r1 hp.gd gp .val h8 h9 (by omega)
  refine ⟨gEn cs ps lo hi many size (some (.val (.int i))) s7 s8 s9, gEn c1 (gput ps ⟨x, y, 1⟩ many) lo hi many size (some (.val (.int i))) (some (.val (Pt.d ⟨x, y, 1⟩))) (some (.val (.bl (bad ps ⟨x, y, 1⟩ ps.length)))) t9, rfl, ?_, c1, gput ps ⟨x, y, 1⟩ many, _, _, _, t9, rfl, r1, hp.put gp, .val, .val, k9⟩
  show denS C (drp (gB1 gr tn) 0) _ = _
  refine Eq.trans (step (B := gB1 gr tn) (i := 0) rfl (e' := gEn c1 ps lo hi many size (some (.val (.int i))) (some (.val (Pt.d ⟨x, y, 1⟩))) s8 s9) ?_) e2
  simp (config := { maxDischargeDepth := 20 }) only [runFn, denS, den, denL, List.map, List.replicate, List.length_cons, List.length_nil, R.bind, R.of, R.way, D.tr, D.truth, getV, getO, ioOk, argsOf, afterCall, putIo, Option.isSome, Option.map, Option.bind, bindT, List.set, endOf, List.cons_append, List.nil_append, List.getElem?_cons_zero, List.getElem?_cons_succ, mul_L, add_L, sub_L, L.mul, L.sub, L.add, x_lst, x_tup, x_fz, c_lt, c_le, c_gt, c_ge, c_eq, c_ne, c_eqB, c_neB, c_isNI, c_isNB, p_int, p_abs, p_isInt, p_isIntB, p_isBool, p_isBoolB, p_isTup, p_isLst, p_isLstT, p_isSeqT, p_isSeqL, p_isSeqI, p_isSeqB, p_isStrI, p_isStrB, Nat.reduceAdd, Nat.reduceSub, decide_true, decide_false, Bool.not_true, Bool.not_false, Bool.not_not, gB1, bodyOf, stm, fGeneral, gEn, e1]
def gI2 (s : List Int) (lo hi many size : Int) (j : Nat) (e : Env) : Prop := ∃ cs ps s6 s7 s8 s9, e = gEn cs ps lo hi many size s6 s7 s8 s9 ∧ Row s cs ∧ Ps many ps ∧ SlOk s7 ∧ SlOk s8 ∧ SlOk s9 ∧ (2 ≤ ps.length ∨ (ps.length : Int) = many ∨ ∀ i, i < j → qg i ∈ ps)
theorem gturn2 {lo hi many size : Int} {j : Nat} {e : Env} (hj : j < 40) (ht : TriS C tn) (hm : many ≤ 1000) (h : gI2 s lo hi many size j e) :
    ∃ e1 e2, bindT (.nm 6) (.int (0 + j)) e = some e1 ∧ denS C (gB2 tn) e1 = .ok .nx e2 ∧ gI2 s lo hi many size (j + 1) e2 := by
  obtain ⟨cs, ps, s6, s7, s8, s9, rfl, hr, hp, h7, h8, h9, hq⟩ := h
  have gp := qg_gd hj
  have hl := hp.len
  obtain ⟨t9, e2, k9⟩ := gtail (cs := cs) (lo := lo) (hi := hi) (many := many) (size := size) (s6 := some (.val (.int (0 + j)))) (s8 := s8) (s9 := s9) (gr := 0) (gB2 tn) rfl ht hr hp.gd gp .val h8 h9 (by omega)
  refine ⟨gEn cs ps lo hi many size (some (.val (.int (0 + j)))) s7 s8 s9, gEn cs (gput ps (qg j) many) lo hi many size (some (.val (.int (0 + j)))) (some (.val (qg j).d)) (some (.val (.bl (bad ps (qg j) ps.length)))) t9, rfl, ?_, cs, gput ps (qg j) many, _, _, _, t9, rfl, hr, hp.put gp, .val, .val, k9, ?_⟩
  · show denS C (drp (gB2 tn) 0) _ = _
    refine Eq.trans (step (B := gB2 tn) (i := 0) rfl (e' := gEn cs ps lo hi many size (some (.val (.int (0 + j)))) (some (.val (qg j).d)) s8 s9) ?_) e2
    have l2 : L 12 (j : Int) := S64.of (by omega) 12
    simp (config := { maxDischargeDepth := 20 }) only [runFn, denS, den, denL, List.map, List.replicate, List.length_cons, List.length_nil, R.bind, R.of, R.way, D.tr, D.truth, getV, getO, ioOk, argsOf, afterCall, putIo, Option.isSome, Option.map, Option.bind, bindT, List.set, endOf, List.cons_append, List.nil_append, List.getElem?_cons_zero, List.getElem?_cons_succ, mul_L, add_L, sub_L, L.mul, L.sub, L.add, x_lst, x_tup, x_fz, c_lt, c_le, c_gt, c_ge, c_eq, c_ne, c_eqB, c_neB, c_isNI, c_isNB, p_int, p_abs, p_isInt, p_isIntB, p_isBool, p_isBoolB, p_isTup, p_isLst, p_isLstT, p_isSeqT, p_isSeqL, p_isSeqI, p_isSeqB, p_isStrI, p_isStrB, Nat.reduceAdd, Nat.reduceSub, decide_true, decide_false, Bool.not_true, Bool.not_false, Bool.not_not, gB2, bodyOf, stm, fGeneral, gEn, Int.zero_add, l2, lim3, Pt.d, qg, ↓reduceIte]
  · by_cases l2 : 2 ≤ (gput ps (qg j) many).length
    · exact .inl l2
    · refine .inr ?_
      unfold gput at l2 ⊢
      by_cases c : bad ps (qg j) ps.length = false ∧ (ps.length : Int) < many
      · rw [if_pos c] at l2 ⊢
        rw [List.length_append] at l2
        have l2 : ¬ 2 ≤ ps.length + 1 := l2
        rcases hq with hq | hq | hq
        · omega
        · omega
        · refine .inr fun i hi => ?_
          by_cases z : i = j
          · rw [z]; exact List.mem_append_right _ (List.mem_singleton.mpr rfl)
          · exact List.mem_append_left _ (hq i (by omega))
      · rw [if_neg c] at l2 ⊢
        rcases hq with hq | hq | hq
        · omega
        · exact .inl hq
        · by_cases lm : (ps.length : Int) = many
          · exact .inl lm
          · have hb : bad ps (qg j) ps.length = true := by
              cases z : bad ps (qg j) ps.length with
              | true => rfl
              | false => exact absurd ⟨z, by omega⟩ c
            have hm := bad_short hb (by omega)
            refine .inr fun i hi => ?_
            by_cases z : i = j
            · rw [z]; exact hm
            · exact hq i (by omega)
theorem run_general {lo hi : Int} (htk : TakS C tk) (hpk : PicS C pk) (hgr : GrdS C gr) (ht : TriS C tn) (hs : s.length ≤ 63) (hr : Row s cs) (h0 : 1 ≤ lo) (h1 : lo ≤ hi) (h2 : hi ≤ 100) :
    ∃ ps cs', runFn C (fGeneral tk pk gr tn) [.own cs, .val (.int lo), .val (.int hi)] = .ok (.tup (lp ps)) cs' ∧ Row s cs' ∧ Gen ps ∧ (∀ p ∈ ps, Gd 1600 p) ∧ (2 ≤ lo → 2 ≤ ps.length) ∧ 1 ≤ ps.length ∧ (ps.length : Int) ≤ hi := by
  obtain ⟨v, c1, e1, r1, v0, v1⟩ := htk s cs (hi - lo + 1) hs hr (by omega) (by omega)
  obtain ⟨j, hj, c2, e2, r2⟩ := hpk s c1 [.int 4, .int 6, .int 9] hs r1 (by decide) (by decide)
  obtain ⟨size, ez, z0, z1⟩ : ∃ z : Int, [D.int 4, .int 6, .int 9][j] = .int z ∧ 0 ≤ z ∧ z ≤ 9 := by
    match j, hj with
    | 0, _ => exact ⟨4, rfl, by omega, by omega⟩
    | 1, _ => exact ⟨6, rfl, by omega, by omega⟩
    | 2, _ => exact ⟨9, rfl, by omega, by omega⟩
  rw [ez] at e2
  obtain ⟨e', q1, i1⟩ := for_all (t := .nm 6) (b := denS C (gB1 gr tn)) (ds := range_ 0 (3 * (lo + v)).toNat) (e := gEn c2 [] lo hi (lo + v) size none none none none) (fun _ e => gI s lo hi (lo + v) size e) ⟨c2, [], none, none, none, none, rfl, r2, ⟨by show (0 : Int) ≤ _; omega, .nil, fun q hq => by cases hq⟩, .none, .none, .none⟩ (fun j d e hd hi => by
    obtain ⟨_, rfl⟩ := rng_some hd
    exact gturn1 hgr ht hs (by omega) z0 z1 hi)
  obtain ⟨c3, ps, s6, s7, s8, s9, rfl, r3, hp, h7, h8, h9⟩ := i1
  obtain ⟨e'', q2, i2⟩ := for_all (t := .nm 6) (b := denS C (gB2 tn)) (ds := range_ 0 40) (e := gEn c3 ps lo hi (lo + v) size s6 s7 s8 s9) (fun j e => gI2 s lo hi (lo + v) size j e) ⟨c3, ps, s6, s7, s8, s9, rfl, r3, hp, h7, h8, h9, .inr (.inr fun i hi => by omega)⟩ (fun j d e hd hi => by
    obtain ⟨hj, rfl⟩ := rng_some hd
    exact gturn2 hj ht (by omega) hi)
  obtain ⟨c4, qs, t6, t7, t8, t9, rfl, r4, hq, _, _, _, hm⟩ := i2
  have l40 : (range_ 0 40).length = 40 := rng_len
  rw [l40] at hm
  have l2 : 2 ≤ qs.length ∨ (qs.length : Int) = lo + v := by
    rcases hm with hm | hm | hm
    · exact .inl hm
    · exact .inr hm
    · have := nodup_le (l := [qg 0, qg 1]) (m := qs) (by decide) (fun x hx => by
        have hx : x = qg 0 ∨ x = qg 1 := by simpa using hx
        rcases hx with rfl | rfl
        · exact hm 0 (by decide)
        · exact hm 1 (by decide))
      exact .inl this
  have hql := hq.len
  refine ⟨qs, c4, ?_, r4, hq.gen, hq.gd, fun _ => by omega, by omega, by omega⟩
  have k1 : denS C (stm (fGeneral tk pk gr tn).body 1) (gEn c2 [] lo hi (lo + v) size none none none none) = .ok .nx (gEn c3 ps lo hi (lo + v) size s6 s7 s8 s9) := by
    show denS C (.for_ (.nm 6) (.rng1 (.bin .mul (.lit (.int 3)) (.var 4))) (gB1 gr tn)) _ = _
    refine s_for (ds := range_ 0 (3 * (lo + v)).toNat) ?_ q1
    have la : L 12 3 := S64.of (by decide) 12
    have lb : L 12 (lo + v) := S64.of (by omega) 12
    have hr : rangeOk 0 (3 * (lo + v)) = true := by
      unfold rangeOk
      exact decide_eq_true (by omega)
    simp (config := { maxDischargeDepth := 20 }) only [runFn, denS, den, denL, List.map, List.replicate, List.length_cons, List.length_nil, R.bind, R.of, R.way, D.tr, D.truth, getV, getO, ioOk, argsOf, afterCall, putIo, Option.isSome, Option.map, Option.bind, bindT, List.set, endOf, List.cons_append, List.nil_append, List.getElem?_cons_zero, List.getElem?_cons_succ, mul_L, add_L, sub_L, L.mul, L.sub, L.add, x_lst, x_tup, x_fz, c_lt, c_le, c_gt, c_ge, c_eq, c_ne, c_eqB, c_neB, c_isNI, c_isNB, p_int, p_abs, p_isInt, p_isIntB, p_isBool, p_isBoolB, p_isTup, p_isLst, p_isLstT, p_isSeqT, p_isSeqL, p_isSeqI, p_isSeqB, p_isStrI, p_isStrB, Nat.reduceAdd, Nat.reduceSub, decide_true, decide_false, Bool.not_true, Bool.not_false, Bool.not_not, gEn, la, lb, hr, ↓reduceIte]
  have k2 : denS C (stm (fGeneral tk pk gr tn).body 2) (gEn c3 ps lo hi (lo + v) size s6 s7 s8 s9) = .ok .nx (gEn c4 qs lo hi (lo + v) size t6 t7 t8 t9) := by
    show denS C (.for_ (.nm 6) (.rng1 (.lit (.int 40))) (gB2 tn)) _ = _
    refine s_for (ds := range_ 0 40) ?_ q2
    have hr : rangeOk 0 40 = true := by decide
    simp (config := { maxDischargeDepth := 20 }) only [runFn, denS, den, denL, List.map, List.replicate, List.length_cons, List.length_nil, R.bind, R.of, R.way, D.tr, D.truth, getV, getO, ioOk, argsOf, afterCall, putIo, Option.isSome, Option.map, Option.bind, bindT, List.set, endOf, List.cons_append, List.nil_append, List.getElem?_cons_zero, List.getElem?_cons_succ, mul_L, add_L, sub_L, L.mul, L.sub, L.add, x_lst, x_tup, x_fz, c_lt, c_le, c_gt, c_ge, c_eq, c_ne, c_eqB, c_neB, c_isNI, c_isNB, p_int, p_abs, p_isInt, p_isIntB, p_isBool, p_isBoolB, p_isTup, p_isLst, p_isLstT, p_isSeqT, p_isSeqL, p_isSeqI, p_isSeqB, p_isStrI, p_isStrB, Nat.reduceAdd, Nat.reduceSub, decide_true, decide_false, Bool.not_true, Bool.not_false, Bool.not_not, gEn, hr, Int.reduceToNat, ↓reduceIte]
  have k : denS C (fGeneral tk pk gr tn).body [some (.own cs), some (.val (.int lo)), some (.val (.int hi)), none, none, none, none, none, none, none, none] = .ok (.rt (.tup (lp qs))) ((gEn c4 qs lo hi (lo + v) size t6 t7 t8 t9).set 3 (some (.val (.lst (lp qs))))) := by
    show denS C (drp (fGeneral tk pk gr tn).body 0) _ = _
    refine Eq.trans (step rfl (e' := gEn c2 [] lo hi (lo + v) size none none none none) ?_) ?_
    · simp (config := { maxDischargeDepth := 20 }) only [runFn, denS, den, denL, List.map, List.replicate, List.length_cons, List.length_nil, R.bind, R.of, R.way, D.tr, D.truth, getV, getO, ioOk, argsOf, afterCall, putIo, Option.isSome, Option.map, Option.bind, bindT, List.set, endOf, List.cons_append, List.nil_append, List.getElem?_cons_zero, List.getElem?_cons_succ, mul_L, add_L, sub_L, L.mul, L.sub, L.add, x_lst, x_tup, x_fz, c_lt, c_le, c_gt, c_ge, c_eq, c_ne, c_eqB, c_neB, c_isNI, c_isNB, p_int, p_abs, p_isInt, p_isIntB, p_isBool, p_isBoolB, p_isTup, p_isLst, p_isLstT, p_isSeqT, p_isSeqL, p_isSeqI, p_isSeqB, p_isStrI, p_isStrB, Nat.reduceAdd, Nat.reduceSub, decide_true, decide_false, Bool.not_true, Bool.not_false, Bool.not_not, stm, fGeneral, gEn, e1, e2, denRow, asL, slsOf, slOf, putRow, lim3, Nat.zero_le, ↓reduceIte]
    refine Eq.trans (step rfl k1) ?_
    refine Eq.trans (step rfl k2) ?_
    show denS C (.cons (.ret (.prim .tuple (.cons (.var 3) .nil))) .nil) _ = _
    rfl
  show (match denS C (fGeneral tk pk gr tn).body [some (.own cs), some (.val (.int lo)), some (.val (.int hi)), none, none, none, none, none, none, none, none] with
    | .ok .nx e' => endOf true .non e'
    | .ok (.rt d) e' => endOf true d e'
    | .ex x _ => .no
    | _ => O.no) = _
  rw [k]
  rfl
end
end Ev
set_option Elab.async false
set_option linter.all false
set_option maxRecDepth 100000
set_option maxHeartbeats 4000000
set_option autoImplicit false
/-! Pl10: points in general position moved; the defs that judge them; the points to the left of a way. -/
namespace Ev
/-! ### small steps -/
theorem run_rt {C : Ctx} {F : Fn} {xs : List Sl} {d : D} {e : Env} (h : denS C F.body (xs.map some ++ List.replicate (F.ns - F.np) none) = .ok (.rt d) e) : runFn C F xs = endOf F.io d e := by
  unfold runFn
  rw [h]
theorem run_nx {C : Ctx} {F : Fn} {xs : List Sl} {e : Env} (h : denS C F.body (xs.map some ++ List.replicate (F.ns - F.np) none) = .ok .nx e) : runFn C F xs = endOf F.io .non e := by
  unfold runFn
  rw [h]
theorem d_tuple {C : Ctx} {a : Ex} {ds : List D} {e e' : Env} (h : den C a e = .ok (.lst ds) e') : den C (.prim .tuple (.cons a .nil)) e = .ok (.tup ds) e' := by
  simp only [den, denL]
  rw [h]
  rfl
theorem d_len {C : Ctx} {a : Ex} {ds : List D} {e e' : Env} (h : den C a e = .ok (.lst ds) e') (hl : ds.length ≤ lim) : den C (.prim .len (.cons a .nil)) e = .ok (.int (ds.length : Int)) e' := by
  simp only [den, denL]
  rw [h]
  show R.of (if ds.length ≤ lim then some (D.int (ds.length : Int)) else none) e' = _
  rw [if_pos hl]
  rfl
theorem cut_takeT {ps : List Pt} {j : Nat} (h : j ≤ ps.length) : slop (.tup (lp ps)) none (some (j : Int)) = some (.tup (lp (ps.take j))) := by
  have := cut_take h
  show some (D.tup (cutOf (lp ps) none (some (j : Int)))) = _
  have e : cutOf (lp ps) none (some (j : Int)) = lp (ps.take j) := by
    have q : some (D.lst (cutOf (lp ps) none (some (j : Int)))) = some (D.lst (lp (ps.take j))) := this
    injection q with q
    injection q
  rw [e]
theorem nd_ne {ps : List Pt} {i j : Nat} {p q : Pt} (h : ps.Nodup) (hij : i < j) (hi : ps[i]? = some p) (hj : ps[j]? = some q) : p ≠ q := by
  obtain ⟨h1, e1⟩ := List.getElem?_eq_some_iff.mp hi
  obtain ⟨h2, e2⟩ := List.getElem?_eq_some_iff.mp hj
  rw [← e1, ← e2]
  exact List.pairwise_iff_getElem.mp h i j h1 h2 hij
theorem nd_take {ps : List Pt} {j : Nat} {r : Pt} (h : ps.Nodup) (hr : ps[j]? = some r) : r ∉ ps.take j := fun hm => by
  obtain ⟨i, hi⟩ := List.mem_iff_getElem?.mp hm
  have hl := (List.getElem?_eq_some_iff.mp hi).1
  rw [List.length_take] at hl
  rw [List.getElem?_take_of_lt (by omega)] at hi
  exact nd_ne h (i := i) (j := j) (by omega) hi hr rfl
/-! ### moved -/
def mv (f x y b : Int) (p : Pt) : Pt := lowN (p.x * f + x * p.w) (p.y * f + y * p.w) (p.w * b)
theorem dbl_mv {a b c a' b' c' : Pt} {f x y k : Int} (wa : a.w = 1) (wb : b.w = 1) (wc : c.w = 1) (a1 : a'.x * k = (a.x * f + x) * a'.w) (a2 : a'.y * k = (a.y * f + y) * a'.w) (b1 : b'.x * k = (b.x * f + x) * b'.w) (b2 : b'.y * k = (b.y * f + y) * b'.w)
    (c1 : c'.x * k = (c.x * f + x) * c'.w) (c2 : c'.y * k = (c.y * f + y) * c'.w) : k * k * dbl a' b' c' = a'.w * b'.w * c'.w * (f * f) * dbl a b c := by
  have e : k * k * dbl a' b' c' = (a'.x * k) * ((b'.y * k) * c'.w - (c'.y * k) * b'.w) - (a'.y * k) * ((b'.x * k) * c'.w - (c'.x * k) * b'.w) + a'.w * ((b'.x * k) * (c'.y * k) - (c'.x * k) * (b'.y * k)) := by
    unfold dbl
    grind
  rw [e, a1, a2, b1, b2, c1, c2]
  unfold dbl
  rw [wa, wb, wc]
  grind
theorem Gd.good {A : Nat} {p : Pt} (h : Gd A p) (hA : A ≤ 1000000000000) : Good p := h.pn.good hA (by decide)
theorem Good.wne {p : Pt} (h : Good p) : p.w ≠ 0 := by have := h.w0; omega
section
variable {f x y b : Int}
theorem mv_pn {p : Pt} (h : Gd 1600 p) (f0 : 1 ≤ f) (f1 : f ≤ 100003) (hx : Nb 1000000009 x) (hy : Nb 1000000009 y) (b0 : 1 ≤ b) (b1 : b ≤ 7) : Pn 2000000000 7 (mv f x y b p) := by
  obtain ⟨hw, h1, h2⟩ := h
  have e : ∀ {i j : Int}, Nb 1600 i → Nb 1000000009 j → Nb 2000000000 (i * f + j * p.w) := fun {i j} hi hj => by
    rw [hw, Int.mul_one]
    have q : Nb (1600 * 100003) (i * f) := Nb.mul hi (by unfold Nb; omega)
    unfold Nb at *
    omega
  refine lowN_pn ?_ (e h1 hx) (e h2 hy) ?_
  · rw [hw]; omega
  · rw [hw, Int.one_mul]; unfold Nb; omega
theorem mv_eq {p : Pt} (h : Gd 1600 p) (b0 : 1 ≤ b) : (mv f x y b p).x * b = (p.x * f + x) * (mv f x y b p).w ∧ (mv f x y b p).y * b = (p.y * f + y) * (mv f x y b p).w := by
  have hw := h.w
  have q := lowN_V (x := p.x * f + x * p.w) (y := p.y * f + y * p.w) (w := p.w * b) (by rw [hw]; omega)
  unfold mv
  rw [hw, Int.mul_one, Int.mul_one, Int.one_mul] at q ⊢
  exact q
theorem mv_gen {ps : List Pt} (h : Gen ps) (hg : ∀ p ∈ ps, Gd 1600 p) (f0 : 1 ≤ f) (f1 : f ≤ 100003) (hx : Nb 1000000009 x) (hy : Nb 1000000009 y) (b0 : 1 ≤ b) (b1 : b ≤ 7) : Gen (ps.map (mv f x y b)) := by
  have inj : ∀ p ∈ ps, ∀ q ∈ ps, mv f x y b p = mv f x y b q → p = q := fun p hp q hq e => by
    have e1 := mv_eq (f := f) (x := x) (y := y) (hg p hp) b0
    have e2 := mv_eq (f := f) (x := x) (y := y) (hg q hq) b0
    have w := (mv_pn (hg q hq) f0 f1 hx hy b0 b1).pw
    rw [e] at e1
    have u := (hg p hp).w
    have v := (hg q hq).w
    have g1 := Int.eq_of_mul_eq_mul_right (by omega) (e1.1.symm.trans e2.1)
    have g2 := Int.eq_of_mul_eq_mul_right (by omega) (e1.2.symm.trans e2.2)
    have k1 : p.x = q.x := Int.eq_of_mul_eq_mul_right (a := f) (by omega) (by omega)
    have k2 : p.y = q.y := Int.eq_of_mul_eq_mul_right (a := f) (by omega) (by omega)
    obtain ⟨p1, p2, p3⟩ := p
    obtain ⟨q1, q2, q3⟩ := q
    simp only at *
    rw [k1, k2, u, v]
  refine ⟨List.pairwise_map.mpr (h.nd.imp_of_mem fun ha hb n e => n (inj _ ha _ hb e)), fun a ha b' hb c hc n1 n2 n3 => ?_⟩
  obtain ⟨a, ia, rfl⟩ := List.mem_map.mp ha
  obtain ⟨b', ib, rfl⟩ := List.mem_map.mp hb
  obtain ⟨c, ic, rfl⟩ := List.mem_map.mp hc
  clear ha hb hc
  have ha := ia
  have hb := ib
  have hc := ic
  have d := h.g a ha b' hb c hc (fun e => n1 (by rw [e])) (fun e => n2 (by rw [e])) (fun e => n3 (by rw [e]))
  have ea := mv_eq (f := f) (x := x) (y := y) (hg a ha) b0
  have eb := mv_eq (f := f) (x := x) (y := y) (hg b' hb) b0
  have ec := mv_eq (f := f) (x := x) (y := y) (hg c hc) b0
  have wa := (mv_pn (hg a ha) f0 f1 hx hy b0 b1).pw
  have wb := (mv_pn (hg b' hb) f0 f1 hx hy b0 b1).pw
  have wc := (mv_pn (hg c hc) f0 f1 hx hy b0 b1).pw
  have q := dbl_mv (hg a ha).w (hg b' hb).w (hg c hc).w ea.1 ea.2 eb.1 eb.2 ec.1 ec.2
  intro z
  rw [z, Int.mul_zero] at q
  have f2 : f * f ≠ 0 := Int.mul_ne_zero (by omega) (by omega)
  exact absurd q.symm (Int.mul_ne_zero (Int.mul_ne_zero (Int.mul_ne_zero (Int.mul_ne_zero (by omega) (by omega)) (by omega)) f2) d)
end
def fMoved (tk pk lo : Nat) : Fn := ⟨2, 8, true, (.cons (.asg (.nm 2) (.call tk (some 0) (.cons (.lit (.int 6)) .nil))) (.cons (.ite (.cmp .gt (.var 2) (.lit (.int 1))) (.cons (.ret (.var 1)) .nil) .nil) (.cons (.parN [3, 4] [false, false] (.cons (.ite (.cmp .eq (.var 2) (.lit (.int 0))) (.call pk (some 0) (.cons (.lst (.cons (.lit (.int 2)) (.cons (.lit (.int 3)) (.cons (.lit (.int 7)) .nil)))) .nil)) (.lit (.int 1))) (.cons (.call pk (some 0) (.cons (.lst (.cons (.lit (.int 1)) (.cons (.lit (.int 2)) (.cons (.lit (.int 100003)) .nil)))) .nil)) .nil))) (.cons (.parN [5, 6] [false, false] (.cons (.call pk (some 0) (.cons (.lst (.cons (.lit (.int 0)) (.cons (.neg (.lit (.int 3))) (.cons (.bin .add (.bin .pow (.lit (.int 10)) (.lit (.int 9))) (.lit (.int 7))) .nil)))) .nil)) (.cons (.call pk (some 0) (.cons (.lst (.cons (.lit (.int 0)) (.cons (.lit (.int 1)) (.cons (.bin .sub (.neg (.bin .pow (.lit (.int 10)) (.lit (.int 9)))) (.lit (.int 9))) .nil)))) .nil)) .nil))) (.cons (.ret (.prim .tuple (.cons (.lc [7] (.nm 7) (.items (.var 1)) (.lit (.bl true)) (.call lo none (.cons (.bin .add (.bin .mul (.ix (.var 7) (.lit (.int 0))) (.var 4)) (.bin .mul (.var 5) (.ix (.var 7) (.lit (.int 2))))) (.cons (.bin .add (.bin .mul (.ix (.var 7) (.lit (.int 1))) (.var 4)) (.bin .mul (.var 6) (.ix (.var 7) (.lit (.int 2))))) (.cons (.bin .mul (.ix (.var 7) (.lit (.int 2))) (.var 3)) .nil))))) .nil))) .nil)))))⟩
/-- points that the program takes -/
structure Oks (ps : List Pt) : Prop where
  gen : Gen ps
  gd : ∀ p ∈ ps, Good p
theorem run_moved {C : Ctx} {tk pk lo : Nat} {s : List Int} {cs : List D} {ps : List Pt} (htk : TakS C tk) (hpk : PicS C pk) (hlo : LowN C lo) (hf : 2000000000 < C.fuel) (hs : s.length ≤ 63) (hr : Row s cs) (hp : Gen ps) (hg : ∀ p ∈ ps, Gd 1600 p) (hl : ps.length ≤ 100) :
    ∃ ps' cs', runFn C (fMoved tk pk lo) [.own cs, .val (.tup (lp ps))] = .ok (.tup (lp ps')) cs' ∧ Row s cs' ∧ Oks ps' ∧ ps'.length = ps.length := by
  obtain ⟨v, c1, e1, r1, v0, v1⟩ := htk s cs 6 hs hr (by decide) (by decide)
  by_cases hv : 1 < v
  · refine ⟨ps, c1, ?_, r1, ⟨hp, fun p h => (hg p h).good (by decide)⟩, rfl⟩
    have d : decide (1 < v) = true := decide_eq_true hv
    simp (config := { maxDischargeDepth := 20 }) only [runFn, denS, den, denL, List.map, List.replicate, List.length_cons, List.length_nil, R.bind, R.of, R.way, D.tr, D.truth, getV, getO, ioOk, argsOf, afterCall, putIo, Option.isSome, Option.map, Option.bind, bindT, List.set, endOf, List.cons_append, List.nil_append, List.getElem?_cons_zero, List.getElem?_cons_succ, mul_L, add_L, sub_L, L.mul, L.sub, L.add, x_lst, x_tup, x_fz, c_lt, c_le, c_gt, c_ge, c_eq, c_ne, c_eqB, c_neB, c_isNI, c_isNB, p_int, p_abs, p_isInt, p_isIntB, p_isBool, p_isBoolB, p_isTup, p_isLst, p_isLstT, p_isSeqT, p_isSeqL, p_isSeqI, p_isSeqB, p_isStrI, p_isStrB, Nat.reduceAdd, Nat.reduceSub, decide_true, decide_false, Bool.not_true, Bool.not_false, Bool.not_not, fMoved, e1, d]
  · obtain ⟨b, c2, eb, r2, b0, b1⟩ : ∃ b c2, den C (.ite (.cmp .eq (.var 2) (.lit (.int 0))) (.call pk (some 0) (.cons (.lst (.cons (.lit (.int 2)) (.cons (.lit (.int 3)) (.cons (.lit (.int 7)) .nil)))) .nil)) (.lit (.int 1))) [some (.own c1), some (.val (.tup (lp ps))), some (.val (.int v)), none, none, none, none, none] = .ok (.int b) [some (.own c2), some (.val (.tup (lp ps))), some (.val (.int v)), none, none, none, none, none] ∧ Row s c2 ∧ 1 ≤ b ∧ b ≤ 7 := by
      by_cases z : v = 0
      · obtain ⟨j, hj, c2, e2, r2⟩ := hpk s c1 [.int 2, .int 3, .int 7] hs r1 (by decide) (by decide)
        obtain ⟨b, ez, z0, z1⟩ : ∃ z : Int, [D.int 2, .int 3, .int 7][j] = .int z ∧ 1 ≤ z ∧ z ≤ 7 := by
          match j, hj with
          | 0, _ => exact ⟨2, rfl, by omega, by omega⟩
          | 1, _ => exact ⟨3, rfl, by omega, by omega⟩
          | 2, _ => exact ⟨7, rfl, by omega, by omega⟩
        rw [ez] at e2
        refine ⟨b, c2, ?_, r2, z0, z1⟩
        subst z
        simp (config := { maxDischargeDepth := 20 }) only [runFn, denS, den, denL, List.map, List.replicate, List.length_cons, List.length_nil, R.bind, R.of, R.way, D.tr, D.truth, getV, getO, ioOk, argsOf, afterCall, putIo, Option.isSome, Option.map, Option.bind, bindT, List.set, endOf, List.cons_append, List.nil_append, List.getElem?_cons_zero, List.getElem?_cons_succ, mul_L, add_L, sub_L, L.mul, L.sub, L.add, x_lst, x_tup, x_fz, c_lt, c_le, c_gt, c_ge, c_eq, c_ne, c_eqB, c_neB, c_isNI, c_isNB, p_int, p_abs, p_isInt, p_isIntB, p_isBool, p_isBoolB, p_isTup, p_isLst, p_isLstT, p_isSeqT, p_isSeqL, p_isSeqI, p_isSeqB, p_isStrI, p_isStrB, Nat.reduceAdd, Nat.reduceSub, decide_true, decide_false, Bool.not_true, Bool.not_false, Bool.not_not, e2, lim3, ↓reduceIte]
      · refine ⟨1, c1, ?_, r1, by omega, by omega⟩
        have d : decide (v = 0) = false := decide_eq_false z
        simp (config := { maxDischargeDepth := 20 }) only [runFn, denS, den, denL, List.map, List.replicate, List.length_cons, List.length_nil, R.bind, R.of, R.way, D.tr, D.truth, getV, getO, ioOk, argsOf, afterCall, putIo, Option.isSome, Option.map, Option.bind, bindT, List.set, endOf, List.cons_append, List.nil_append, List.getElem?_cons_zero, List.getElem?_cons_succ, mul_L, add_L, sub_L, L.mul, L.sub, L.add, x_lst, x_tup, x_fz, c_lt, c_le, c_gt, c_ge, c_eq, c_ne, c_eqB, c_neB, c_isNI, c_isNB, p_int, p_abs, p_isInt, p_isIntB, p_isBool, p_isBoolB, p_isTup, p_isLst, p_isLstT, p_isSeqT, p_isSeqL, p_isSeqI, p_isSeqB, p_isStrI, p_isStrB, Nat.reduceAdd, Nat.reduceSub, decide_true, decide_false, Bool.not_true, Bool.not_false, Bool.not_not, d]
    obtain ⟨j, hj, c3, e3, r3⟩ := hpk s c2 [.int 1, .int 2, .int 100003] hs r2 (by decide) (by decide)
    obtain ⟨f, ef, f0, f1⟩ : ∃ z : Int, [D.int 1, .int 2, .int 100003][j] = .int z ∧ 1 ≤ z ∧ z ≤ 100003 := by
      match j, hj with
      | 0, _ => exact ⟨1, rfl, by omega, by omega⟩
      | 1, _ => exact ⟨2, rfl, by omega, by omega⟩
      | 2, _ => exact ⟨100003, rfl, by omega, by omega⟩
    rw [ef] at e3
    obtain ⟨j, hj, c4, e4, r4⟩ := hpk s c3 [.int 0, .int (-3), .int 1000000007] hs r3 (by decide) (by decide)
    obtain ⟨x, ex, hx⟩ : ∃ z : Int, [D.int 0, .int (-3), .int 1000000007][j] = .int z ∧ Nb 1000000009 z := by
      match j, hj with
      | 0, _ => exact ⟨0, rfl, by unfold Nb; decide⟩
      | 1, _ => exact ⟨-3, rfl, by unfold Nb; decide⟩
      | 2, _ => exact ⟨1000000007, rfl, by unfold Nb; decide⟩
    rw [ex] at e4
    obtain ⟨j, hj, c5, e5, r5⟩ := hpk s c4 [.int 0, .int 1, .int (-1000000009)] hs r4 (by decide) (by decide)
    obtain ⟨y, ey, hy⟩ : ∃ z : Int, [D.int 0, .int 1, .int (-1000000009)][j] = .int z ∧ Nb 1000000009 z := by
      match j, hj with
      | 0, _ => exact ⟨0, rfl, by unfold Nb; decide⟩
      | 1, _ => exact ⟨1, rfl, by unfold Nb; decide⟩
      | 2, _ => exact ⟨-1000000009, rfl, by unfold Nb; decide⟩
    rw [ey] at e5
    refine ⟨ps.map (mv f x y b), c5, ?_, r5, ⟨mv_gen hp hg f0 f1 hx hy b0 b1, fun p h => ?_⟩, List.length_map _⟩
    · have d : decide (1 < v) = false := decide_eq_false hv
      have pw : binop .pow (.int 10) (.int 9) = some (.int 1000000000) := rfl
      have k : denS C (fMoved tk pk lo).body [some (.own cs), some (.val (.tup (lp ps))), none, none, none, none, none, none] = .ok (.rt (.tup (lp (ps.map (mv f x y b))))) [some (.own c5), some (.val (.tup (lp ps))), some (.val (.int v)), some (.val (.int b)), some (.val (.int f)), some (.val (.int x)), some (.val (.int y)), none] := by
        show denS C (drp (fMoved tk pk lo).body 0) _ = _
        refine Eq.trans (step rfl (e' := [some (.own c1), some (.val (.tup (lp ps))), some (.val (.int v)), none, none, none, none, none]) ?_) ?_
        · simp (config := { maxDischargeDepth := 20 }) only [runFn, denS, den, denL, List.map, List.replicate, List.length_cons, List.length_nil, R.bind, R.of, R.way, D.tr, D.truth, getV, getO, ioOk, argsOf, afterCall, putIo, Option.isSome, Option.map, Option.bind, bindT, List.set, endOf, List.cons_append, List.nil_append, List.getElem?_cons_zero, List.getElem?_cons_succ, mul_L, add_L, sub_L, L.mul, L.sub, L.add, x_lst, x_tup, x_fz, c_lt, c_le, c_gt, c_ge, c_eq, c_ne, c_eqB, c_neB, c_isNI, c_isNB, p_int, p_abs, p_isInt, p_isIntB, p_isBool, p_isBoolB, p_isTup, p_isLst, p_isLstT, p_isSeqT, p_isSeqL, p_isSeqI, p_isSeqB, p_isStrI, p_isStrB, Nat.reduceAdd, Nat.reduceSub, decide_true, decide_false, Bool.not_true, Bool.not_false, Bool.not_not, stm, fMoved, e1]
        refine Eq.trans (step rfl (e' := [some (.own c1), some (.val (.tup (lp ps))), some (.val (.int v)), none, none, none, none, none]) ?_) ?_
        · simp (config := { maxDischargeDepth := 20 }) only [runFn, denS, den, denL, List.map, List.replicate, List.length_cons, List.length_nil, R.bind, R.of, R.way, D.tr, D.truth, getV, getO, ioOk, argsOf, afterCall, putIo, Option.isSome, Option.map, Option.bind, bindT, List.set, endOf, List.cons_append, List.nil_append, List.getElem?_cons_zero, List.getElem?_cons_succ, mul_L, add_L, sub_L, L.mul, L.sub, L.add, x_lst, x_tup, x_fz, c_lt, c_le, c_gt, c_ge, c_eq, c_ne, c_eqB, c_neB, c_isNI, c_isNB, p_int, p_abs, p_isInt, p_isIntB, p_isBool, p_isBoolB, p_isTup, p_isLst, p_isLstT, p_isSeqT, p_isSeqL, p_isSeqI, p_isSeqB, p_isStrI, p_isStrB, Nat.reduceAdd, Nat.reduceSub, decide_true, decide_false, Bool.not_true, Bool.not_false, Bool.not_not, stm, fMoved, d]
        refine Eq.trans (step rfl (e' := [some (.own c3), some (.val (.tup (lp ps))), some (.val (.int v)), some (.val (.int b)), some (.val (.int f)), none, none, none]) ?_) ?_
        · show ((denRow C [false, false] (.cons (.ite (.cmp .eq (.var 2) (.lit (.int 0))) (.call pk (some 0) (.cons (.lst (.cons (.lit (.int 2)) (.cons (.lit (.int 3)) (.cons (.lit (.int 7)) .nil)))) .nil)) (.lit (.int 1))) (.cons (.call pk (some 0) (.cons (.lst (.cons (.lit (.int 1)) (.cons (.lit (.int 2)) (.cons (.lit (.int 100003)) .nil)))) .nil)) .nil)) _).bind fun ds e => match slsOf [false, false] ds with
            | some ss => R.ok Fl.nx (putRow [3, 4] ss e)
            | none => .no) = _
          simp only [denRow]
          rw [eb]
          simp (config := { maxDischargeDepth := 20 }) only [runFn, denS, den, denL, List.map, List.replicate, List.length_cons, List.length_nil, R.bind, R.of, R.way, D.tr, D.truth, getV, getO, ioOk, argsOf, afterCall, putIo, Option.isSome, Option.map, Option.bind, bindT, List.set, endOf, List.cons_append, List.nil_append, List.getElem?_cons_zero, List.getElem?_cons_succ, mul_L, add_L, sub_L, L.mul, L.sub, L.add, x_lst, x_tup, x_fz, c_lt, c_le, c_gt, c_ge, c_eq, c_ne, c_eqB, c_neB, c_isNI, c_isNB, p_int, p_abs, p_isInt, p_isIntB, p_isBool, p_isBoolB, p_isTup, p_isLst, p_isLstT, p_isSeqT, p_isSeqL, p_isSeqI, p_isSeqB, p_isStrI, p_isStrB, Nat.reduceAdd, Nat.reduceSub, decide_true, decide_false, Bool.not_true, Bool.not_false, Bool.not_not, e3, slsOf, slOf, putRow, lim3, ↓reduceIte]
        refine Eq.trans (step rfl (e' := [some (.own c5), some (.val (.tup (lp ps))), some (.val (.int v)), some (.val (.int b)), some (.val (.int f)), some (.val (.int x)), some (.val (.int y)), none]) ?_) ?_
        · simp (config := { maxDischargeDepth := 20 }) only [runFn, denS, den, denL, List.map, List.replicate, List.length_cons, List.length_nil, R.bind, R.of, R.way, D.tr, D.truth, getV, getO, ioOk, argsOf, afterCall, putIo, Option.isSome, Option.map, Option.bind, bindT, List.set, endOf, List.cons_append, List.nil_append, List.getElem?_cons_zero, List.getElem?_cons_succ, mul_L, add_L, sub_L, L.mul, L.sub, L.add, x_lst, x_tup, x_fz, c_lt, c_le, c_gt, c_ge, c_eq, c_ne, c_eqB, c_neB, c_isNI, c_isNB, p_int, p_abs, p_isInt, p_isIntB, p_isBool, p_isBoolB, p_isTup, p_isLst, p_isLstT, p_isSeqT, p_isSeqL, p_isSeqI, p_isSeqB, p_isStrI, p_isStrB, Nat.reduceAdd, Nat.reduceSub, decide_true, decide_false, Bool.not_true, Bool.not_false, Bool.not_not, stm, fMoved, e4, e5, pw, denRow, asL, slsOf, slOf, putRow, lim3, Int.reduceNeg, Int.reduceAdd, Int.reduceSub, ↓reduceIte]
        have hm : lp (ps.map (mv f x y b)) = (lp ps).map fun d => match d with
            | .tup [.int p, .int q, .int w] => (mv f x y b ⟨p, q, w⟩).d
            | d => d := by
          show List.map Pt.d (List.map (mv f x y b) ps) = List.map _ (List.map Pt.d ps)
          rw [List.map_map, List.map_map]
          rfl
        rw [hm]
        refine s_ret (d_tuple (lc_map (ds := lp ps) ?_ rfl (fun d hd => ?_) (by rw [List.length_map]; exact Nat.le_trans hl (by decide))))
        · simp (config := { maxDischargeDepth := 20 }) only [runFn, denS, den, denL, List.map, List.replicate, List.length_cons, List.length_nil, R.bind, R.of, R.way, D.tr, D.truth, getV, getO, ioOk, argsOf, afterCall, putIo, Option.isSome, Option.map, Option.bind, bindT, List.set, endOf, List.cons_append, List.nil_append, List.getElem?_cons_zero, List.getElem?_cons_succ, mul_L, add_L, sub_L, L.mul, L.sub, L.add, x_lst, x_tup, x_fz, c_lt, c_le, c_gt, c_ge, c_eq, c_ne, c_eqB, c_neB, c_isNI, c_isNB, p_int, p_abs, p_isInt, p_isIntB, p_isBool, p_isBoolB, p_isTup, p_isLst, p_isLstT, p_isSeqT, p_isSeqL, p_isSeqI, p_isSeqB, p_isStrI, p_isStrB, Nat.reduceAdd, Nat.reduceSub, decide_true, decide_false, Bool.not_true, Bool.not_false, Bool.not_not]
        · obtain ⟨p, hp, rfl⟩ := List.mem_map.mp hd
          obtain ⟨hw, h1, h2⟩ := hg p hp
          have l1 : L 12 p.x := h1.S (by decide) 12
          have l2 : L 12 p.y := h2.S (by decide) 12
          have l3 : L 12 p.w := S64.of (by rw [hw]; decide) 12
          have l4 : L 12 f := S64.of (by omega) 12
          have l5 : L 12 x := hx.S (by decide) 12
          have l6 : L 12 y := hy.S (by decide) 12
          have l7 : L 12 b := S64.of (by omega) 12
          have l8 : L 7 (p.w * b) := S64.of (by rw [hw]; omega) 7
          have n1 : Nb (1600 * 100003) (p.y * f) := Nb.mul h2 (by unfold Nb; omega)
          have n2 : (p.y * f + y * p.w).natAbs < C.fuel := by
            rw [hw, Int.mul_one]
            unfold Nb at n1 hy
            omega
          have q := hlo (p.x * f + x * p.w) (p.y * f + y * p.w) (p.w * b) (by rw [hw]; omega) l8 n2 (by rw [hw]; omega)
          show _ = R.ok (mv f x y b p).d _
          unfold mv
          simp (config := { maxDischargeDepth := 20 }) only [runFn, denS, den, denL, List.map, List.replicate, List.length_cons, List.length_nil, R.bind, R.of, R.way, D.tr, D.truth, getV, getO, ioOk, argsOf, afterCall, putIo, Option.isSome, Option.map, Option.bind, bindT, List.set, endOf, List.cons_append, List.nil_append, List.getElem?_cons_zero, List.getElem?_cons_succ, mul_L, add_L, sub_L, L.mul, L.sub, L.add, x_lst, x_tup, x_fz, c_lt, c_le, c_gt, c_ge, c_eq, c_ne, c_eqB, c_neB, c_isNI, c_isNB, p_int, p_abs, p_isInt, p_isIntB, p_isBool, p_isBoolB, p_isTup, p_isLst, p_isLstT, p_isSeqT, p_isSeqL, p_isSeqI, p_isSeqB, p_isStrI, p_isStrB, Nat.reduceAdd, Nat.reduceSub, decide_true, decide_false, Bool.not_true, Bool.not_false, Bool.not_not, di0, di1, di2, l1, l2, l3, l4, l5, l6, l7, q]
      exact (run_rt k).trans rfl
    · obtain ⟨q, hq, rfl⟩ := List.mem_map.mp h
      exact (mv_pn (hg q hq) f0 f1 hx hy b0 b1).good (by decide) (by decide)
end Ev
set_option Elab.async false
set_option linter.all false
set_option maxRecDepth 100000
set_option maxHeartbeats 4000000
set_option autoImplicit false
/-! Pl11: the defs that judge points in general position; the points to the left of a way. -/
namespace Ev
def fNeedPoints (ip mp : Nat) : Fn := ⟨1, 2, false, (.cons (.ite (.or (.not (.isi .isTup (.var 0))) (.not (.cmp2 .le .le (.lit (.int 1)) (.prim .len (.cons (.var 0) .nil)) (.gval mp)))) (.cons .never .nil) .nil) (.cons (.for_ (.nm 1) (.rng1 (.prim .len (.cons (.var 0) .nil))) (.cons (.ite (.or (.not (.call ip none (.cons (.ix (.var 0) (.var 1)) .nil))) (.cmp .mem (.ix (.var 0) (.var 1)) (.sl (.var 0) (.lit .non) (.var 1)))) (.cons .never .nil) .nil) .nil)) .nil))⟩
def fNeedGeneral (np tn : Nat) : Fn := ⟨1, 4, false, (.cons (.exp (.call np none (.cons (.var 0) .nil))) (.cons (.for_ (.nm 1) (.rng1 (.prim .len (.cons (.var 0) .nil))) (.cons (.for_ (.nm 2) (.rng1 (.var 1)) (.cons (.for_ (.nm 3) (.rng1 (.var 2)) (.cons (.ite (.cmp .eq (.call tn none (.cons (.ix (.var 0) (.var 1)) (.cons (.ix (.var 0) (.var 2)) (.cons (.ix (.var 0) (.var 3)) .nil)))) (.lit (.int 0))) (.cons .never .nil) .nil) .nil)) .nil)) .nil)) .nil))⟩
def fLefts (tn : Nat) : Fn := ⟨3, 4, false, (.cons (.ret (.lc [3] (.nm 3) (.rng1 (.prim .len (.cons (.var 0) .nil))) (.cmp .gt (.call tn none (.cons (.var 1) (.cons (.var 2) (.cons (.ix (.var 0) (.var 3)) .nil)))) (.lit (.int 0))) (.var 3))) .nil)⟩
def fLeftCounts (ng lf : Nat) : Fn := ⟨1, 5, false, (.cons (.exp (.call ng none (.cons (.var 0) .nil))) (.cons (.asg (.nm 1) (.prim .len (.cons (.var 0) .nil))) (.cons (.ite (.cmp .lt (.var 1) (.lit (.int 2))) (.cons .never .nil) .nil) (.cons (.own 2 (.bin .mul (.lst (.cons (.lit (.int 0)) .nil)) (.bin .sub (.var 1) (.lit (.int 1))))) (.cons (.for_ (.nm 3) (.items (.var 0)) (.cons (.for_ (.nm 4) (.items (.var 0)) (.cons (.ite (.cmp .ne (.var 3) (.var 4)) (.cons (.augix 2 (.prim .len (.cons (.call lf none (.cons (.var 0) (.cons (.var 3) (.cons (.var 4) .nil)))) .nil)) .add (.lit (.int 1))) .nil) .nil) .nil)) .nil)) (.cons (.ret (.prim .tuple (.cons (.var 2) .nil))) .nil))))))⟩
def fHalving (ng lf : Nat) : Fn := ⟨1, 5, false, (.cons (.exp (.call ng none (.cons (.var 0) .nil))) (.cons (.parN [1, 2] [false, true] (.cons (.prim .len (.cons (.var 0) .nil)) (.cons (.lst .nil) .nil))) (.cons (.for_ (.nm 3) (.rng1 (.var 1)) (.cons (.for_ (.nm 4) (.rng2 (.bin .add (.var 3) (.lit (.int 1))) (.var 1)) (.cons (.ite (.cmp .eq (.bin .mul (.lit (.int 2)) (.prim .len (.cons (.call lf none (.cons (.var 0) (.cons (.ix (.var 0) (.var 3)) (.cons (.ix (.var 0) (.var 4)) .nil)))) .nil))) (.bin .sub (.var 1) (.lit (.int 2)))) (.cons (.app 2 (.tup (.cons (.var 3) (.cons (.var 4) .nil)))) .nil) .nil) .nil)) .nil)) (.cons (.ret (.prim .tuple (.cons (.var 2) .nil))) .nil))))⟩
def fLLeftCounts (tn : Nat) : Fn := ⟨1, 6, false, (.cons (.own 1 (.bin .mul (.lst (.cons (.lit (.int 0)) .nil)) (.bin .sub (.prim .len (.cons (.var 0) .nil)) (.lit (.int 1))))) (.cons (.for_ (.nm 2) (.items (.var 0)) (.cons (.for_ (.nm 3) (.items (.var 0)) (.cons (.ite (.cmp .ne (.var 2) (.var 3)) (.cons (.asg (.nm 4) (.prim .len (.cons (.lc [5] (.nm 5) (.items (.var 0)) (.cmp .gt (.call tn none (.cons (.var 2) (.cons (.var 3) (.cons (.var 5) .nil)))) (.lit (.int 0))) (.var 5)) .nil))) (.cons (.setix 1 (.var 4) (.bin .add (.oix 1 (.var 4)) (.lit (.int 1)))) .nil)) .nil) .nil)) .nil)) (.cons (.ret (.var 1)) .nil)))⟩
def IspS (C : Ctx) (f : Nat) : Prop := ∀ p : Pt, Good p → C.call f [.val p.d] = .ok (.bl true) []
section
variable {C : Ctx} {ip mp np tn lf ng : Nat} {ps : List Pt}
theorem sgn0 {z : Int} (h : z ≠ 0) : decide (sgn z = 0) = false := by
  have := sgn_cases z
  exact decide_eq_false (by omega)
theorem sgnp (z : Int) : decide (0 < sgn z) = decide (0 < z) := by
  have := sgn_cases z
  by_cases c : 0 < z
  · rw [decide_eq_true c]; exact decide_eq_true (by omega)
  · rw [decide_eq_false c]; exact decide_eq_false (by omega)
theorem rok {n : Nat} (h : n ≤ 1000000) : rangeOk 0 (n : Int) = true := by
  unfold rangeOk
  exact decide_eq_true (by omega)
theorem rng_aux (p : Int → Bool) {z : Int} {e : Env} (hp : p z = true) : ((R.ok (D.int z) e).bind fun x e => match x with
    | .int n => if p n = true then R.ok (range_ 0 n.toNat) e else .no
    | _ => .no) = R.ok (range_ 0 z.toNat) e := by
  show (if p z = true then R.ok (range_ 0 z.toNat) e else .no) = _
  rw [if_pos hp]
theorem rng_aux2 (p : Int → Int → Bool) {z w : Int} {e : Env} (hp : p z w = true) : ((R.ok (D.int w) e).bind fun y e => match D.int z, y with
    | .int i, .int j => if p i j = true then R.ok (range_ i (j - i).toNat) e else .no
    | _, _ => .no) = R.ok (range_ z (w - z).toNat) e := by
  show (if p z w = true then R.ok (range_ z (w - z).toNat) e else .no) = _
  rw [if_pos hp]
theorem d_rng {a : Ex} {n : Nat} {e e' : Env} (h : den C a e = .ok (.int (n : Int)) e') (hn : n ≤ 1000000) : denL C (.rng1 a) e = .ok (range_ 0 n) e' := by
  have hr := rok hn
  simp only [denL]
  rw [h]
  exact rng_aux (rangeOk 0) hr
theorem d_rng2 {a b : Ex} {n : Int} {m : Nat} {e e' e'' : Env} (h : den C a e = .ok (.int n) e') (k : den C b e' = .ok (.int (m : Int)) e'') (h0 : 0 ≤ n) (h1 : n ≤ 1000000) (hn : m ≤ 1000000) : denL C (.rng2 a b) e = .ok (range_ n (m - n.toNat)) e'' := by
  have hr : rangeOk n (m : Int) = true := by
    unfold rangeOk
    exact decide_eq_true (by omega)
  have hz : ((m : Int) - n).toNat = m - n.toNat := by omega
  rw [← hz]
  have e1 : denL C (.rng2 a b) e = (den C b e').bind fun y e => match D.int n, y with
      | .int i, .int j => if rangeOk i j = true then R.ok (range_ i (j - i).toNat) e else .no
      | _, _ => .no := by
    simp only [denL]
    rw [h]
    rfl
  rw [e1, k]
  exact rng_aux2 rangeOk hr
theorem at_int (j : Nat) : (0 : Int) + j = j := by omega
theorem run_need_points (hip : IspS C ip) (hgl : C.glob mp = .int 40) (hp : Oks ps) (h1 : 1 ≤ ps.length) (h2 : ps.length ≤ 40) : runFn C (fNeedPoints ip mp) [.val (.tup (lp ps))] = .ok .non [] := by
  have q2 := len_ptsT (ps := ps) (by omega)
  obtain ⟨e', k, s, rfl⟩ := for_all (t := .nm 1) (b := denS C (bodyOf (stm (fNeedPoints ip mp).body 1))) (ds := range_ 0 ps.length) (e := [some (.val (.tup (lp ps))), none]) (fun _ e => ∃ s, e = [some (.val (.tup (lp ps))), s]) ⟨none, rfl⟩ (fun j d e hd hi => by
    obtain ⟨hj, rfl⟩ := rng_some hd
    obtain ⟨s, rfl⟩ := hi
    refine ⟨[some (.val (.tup (lp ps))), some (.val (.int (0 + j)))], [some (.val (.tup (lp ps))), some (.val (.int (0 + j)))], rfl, ?_, _, rfl⟩
    rw [at_int]
    have hr : ps[j]? = some ps[j] := List.getElem?_eq_getElem hj
    have hat := at_pt hr
    have hc := hip _ (hp.gd _ (List.getElem_mem hj))
    have hn := nd_take hp.gen.nd hr
    have sc := cut_takeT (ps := ps) (j := j) (by omega)
    generalize ps[j] = r at *
    have hm : cmpop .mem r.d (.tup (lp (ps.take j))) = some false := by
      rw [c_memT, decide_eq_false hn]
    simp (config := { maxDischargeDepth := 20 }) only [runFn, denS, den, denL, List.map, List.replicate, List.length_cons, List.length_nil, R.bind, R.of, R.way, D.tr, D.truth, getV, getO, ioOk, argsOf, afterCall, putIo, Option.isSome, Option.map, Option.bind, bindT, List.set, endOf, List.cons_append, List.nil_append, List.getElem?_cons_zero, List.getElem?_cons_succ, mul_L, add_L, sub_L, L.mul, L.sub, L.add, x_lst, x_tup, x_fz, c_lt, c_le, c_gt, c_ge, c_eq, c_ne, c_eqB, c_neB, c_isNI, c_isNB, p_int, p_abs, p_isInt, p_isIntB, p_isBool, p_isBoolB, p_isTup, p_isLst, p_isLstT, p_isSeqT, p_isSeqL, p_isSeqI, p_isSeqB, p_isStrI, p_isStrB, Nat.reduceAdd, Nat.reduceSub, decide_true, decide_false, Bool.not_true, Bool.not_false, Bool.not_not, bodyOf, stm, fNeedPoints, hat, hc, hm, partR, noneB, sc])
  refine (run_nx (e := [some (.val (.tup (lp ps))), s]) ?_).trans rfl
  show denS C (drp (fNeedPoints ip mp).body 0) _ = _
  refine Eq.trans (step rfl (e' := [some (.val (.tup (lp ps))), none]) ?_) ?_
  · have d1 : decide ((1 : Int) ≤ (ps.length : Int)) = true := decide_eq_true (by omega)
    have d2 : decide ((ps.length : Int) ≤ 40) = true := decide_eq_true (by omega)
    simp (config := { maxDischargeDepth := 20 }) only [runFn, denS, den, denL, List.map, List.replicate, List.length_cons, List.length_nil, R.bind, R.of, R.way, D.tr, D.truth, getV, getO, ioOk, argsOf, afterCall, putIo, Option.isSome, Option.map, Option.bind, bindT, List.set, endOf, List.cons_append, List.nil_append, List.getElem?_cons_zero, List.getElem?_cons_succ, mul_L, add_L, sub_L, L.mul, L.sub, L.add, x_lst, x_tup, x_fz, c_lt, c_le, c_gt, c_ge, c_eq, c_ne, c_eqB, c_neB, c_isNI, c_isNB, p_int, p_abs, p_isInt, p_isIntB, p_isBool, p_isBoolB, p_isTup, p_isLst, p_isLstT, p_isSeqT, p_isSeqL, p_isSeqI, p_isSeqB, p_isStrI, p_isStrB, Nat.reduceAdd, Nat.reduceSub, decide_true, decide_false, Bool.not_true, Bool.not_false, Bool.not_not, stm, fNeedPoints, q2, hgl, d1, d2]
  refine s_last (s_for (ds := range_ 0 ps.length) (d_rng ?_ (by omega)) k)
  simp (config := { maxDischargeDepth := 20 }) only [runFn, denS, den, denL, List.map, List.replicate, List.length_cons, List.length_nil, R.bind, R.of, R.way, D.tr, D.truth, getV, getO, ioOk, argsOf, afterCall, putIo, Option.isSome, Option.map, Option.bind, bindT, List.set, endOf, List.cons_append, List.nil_append, List.getElem?_cons_zero, List.getElem?_cons_succ, mul_L, add_L, sub_L, L.mul, L.sub, L.add, x_lst, x_tup, x_fz, c_lt, c_le, c_gt, c_ge, c_eq, c_ne, c_eqB, c_neB, c_isNI, c_isNB, p_int, p_abs, p_isInt, p_isIntB, p_isBool, p_isBoolB, p_isTup, p_isLst, p_isLstT, p_isSeqT, p_isSeqL, p_isSeqI, p_isSeqB, p_isStrI, p_isStrB, Nat.reduceAdd, Nat.reduceSub, decide_true, decide_false, Bool.not_true, Bool.not_false, Bool.not_not, q2]
def ng1 (tn : Nat) : Sm := bodyOf (stm (fNeedGeneral 0 tn).body 1)
def ng2 (tn : Nat) : Sm := bodyOf (stm (ng1 tn) 0)
def ng3 (tn : Nat) : Sm := bodyOf (stm (ng2 tn) 0)
theorem ng_a (tn : Nat) : ng1 tn = .cons (.for_ (.nm 2) (.rng1 (.var 1)) (ng2 tn)) .nil := rfl
theorem ng_b (tn : Nat) : ng2 tn = .cons (.for_ (.nm 3) (.rng1 (.var 2)) (ng3 tn)) .nil := rfl
theorem ng_c (np tn : Nat) : (fNeedGeneral np tn).body = .cons (.exp (.call np none (.cons (.var 0) .nil))) (.cons (.for_ (.nm 1) (.rng1 (.prim .len (.cons (.var 0) .nil))) (ng1 tn)) .nil) := rfl
theorem in3 (ht : TrnS C tn) (hp : Oks ps) (h2 : ps.length ≤ 40) (i j : Nat) (hi : i < ps.length) (hj : j < i) (s3 : Option Sl) : ∃ s3', denS C (.for_ (.nm 3) (.rng1 (.var 2)) (ng3 tn)) [some (.val (.tup (lp ps))), some (.val (.int i)), some (.val (.int j)), s3] = .ok .nx [some (.val (.tup (lp ps))), some (.val (.int i)), some (.val (.int j)), s3'] := by
  have st : ∀ (k : Nat) (s : Option Sl), k < j → denS C (ng3 tn) [some (.val (.tup (lp ps))), some (.val (.int i)), some (.val (.int j)), some (.val (.int k))] = .ok .nx [some (.val (.tup (lp ps))), some (.val (.int i)), some (.val (.int j)), some (.val (.int k))] := by
    intro k s hk
    have hri : ps[i]? = some ps[i] := List.getElem?_eq_getElem hi
    have hrj : ps[j]? = some (ps[j]'(by omega)) := List.getElem?_eq_getElem (by omega)
    have hrk : ps[k]? = some (ps[k]'(by omega)) := List.getElem?_eq_getElem (by omega)
    have ai := at_pt hri
    have aj := at_pt hrj
    have ak := at_pt hrk
    have n1 := (nd_ne hp.gen.nd hj hrj hri).symm
    have n2 := (nd_ne hp.gen.nd (by omega) hrk hri).symm
    have n3 := (nd_ne hp.gen.nd hk hrk hrj).symm
    have mi := List.mem_of_getElem? hri
    have mj := List.mem_of_getElem? hrj
    have mk := List.mem_of_getElem? hrk
    generalize ps[i] = a at *
    generalize ps[j]'(by omega) = b at *
    generalize ps[k]'(by omega) = c at *
    have q := ht a b c (hp.gd a mi).sz (hp.gd b mj).sz (hp.gd c mk).sz (hp.gd a mi).wne
    have z := sgn0 (hp.gen.g a mi b mj c mk n1 n2 n3)
    simp (config := { maxDischargeDepth := 20 }) only [runFn, denS, den, denL, List.map, List.replicate, List.length_cons, List.length_nil, R.bind, R.of, R.way, D.tr, D.truth, getV, getO, ioOk, argsOf, afterCall, putIo, Option.isSome, Option.map, Option.bind, bindT, List.set, endOf, List.cons_append, List.nil_append, List.getElem?_cons_zero, List.getElem?_cons_succ, mul_L, add_L, sub_L, L.mul, L.sub, L.add, x_lst, x_tup, x_fz, c_lt, c_le, c_gt, c_ge, c_eq, c_ne, c_eqB, c_neB, c_isNI, c_isNB, p_int, p_abs, p_isInt, p_isIntB, p_isBool, p_isBoolB, p_isTup, p_isLst, p_isLstT, p_isSeqT, p_isSeqL, p_isSeqI, p_isSeqB, p_isStrI, p_isStrB, Nat.reduceAdd, Nat.reduceSub, decide_true, decide_false, Bool.not_true, Bool.not_false, Bool.not_not, ng3, ng2, ng1, bodyOf, stm, fNeedGeneral, ai, aj, ak, q, z]
  obtain ⟨e', k, s, rfl⟩ := for_all (t := .nm 3) (b := denS C (ng3 tn)) (ds := range_ 0 j) (e := [some (.val (.tup (lp ps))), some (.val (.int i)), some (.val (.int j)), s3]) (fun _ e => ∃ s, e = [some (.val (.tup (lp ps))), some (.val (.int i)), some (.val (.int j)), s]) ⟨s3, rfl⟩ (fun k d e hd hI => by
    obtain ⟨hk, rfl⟩ := rng_some hd
    obtain ⟨s, rfl⟩ := hI
    rw [at_int]
    exact ⟨_, _, rfl, st k s hk, _, rfl⟩)
  exact ⟨s, s_for (ds := range_ 0 j) (d_rng rfl (by omega)) k⟩
theorem in2 (ht : TrnS C tn) (hp : Oks ps) (h2 : ps.length ≤ 40) (i : Nat) (hi : i < ps.length) (s2 s3 : Option Sl) : ∃ s2' s3', denS C (.for_ (.nm 2) (.rng1 (.var 1)) (ng2 tn)) [some (.val (.tup (lp ps))), some (.val (.int i)), s2, s3] = .ok .nx [some (.val (.tup (lp ps))), some (.val (.int i)), s2', s3'] := by
  obtain ⟨e', k, s2', s3', rfl⟩ := for_all (t := .nm 2) (b := denS C (ng2 tn)) (ds := range_ 0 i) (e := [some (.val (.tup (lp ps))), some (.val (.int i)), s2, s3]) (fun _ e => ∃ s2 s3, e = [some (.val (.tup (lp ps))), some (.val (.int i)), s2, s3]) ⟨s2, s3, rfl⟩ (fun k d e hd hI => by
    obtain ⟨hk, rfl⟩ := rng_some hd
    obtain ⟨s2, s3, rfl⟩ := hI
    obtain ⟨s3', q⟩ := in3 ht hp h2 i k hi hk s3
    rw [at_int]
    refine ⟨_, [some (.val (.tup (lp ps))), some (.val (.int i)), some (.val (.int k)), s3'], rfl, ?_, _, _, rfl⟩
    rw [ng_b]
    exact s_last q)
  exact ⟨s2', s3', s_for (ds := range_ 0 i) (d_rng rfl (by omega)) k⟩
theorem run_need_general (hnp : C.call np [.val (.tup (lp ps))] = .ok .non []) (ht : TrnS C tn) (hp : Oks ps) (h2 : ps.length ≤ 40) : runFn C (fNeedGeneral np tn) [.val (.tup (lp ps))] = .ok .non [] := by
  have q2 := len_ptsT (ps := ps) (by omega)
  obtain ⟨e', k, s1, s2, s3, rfl⟩ := for_all (t := .nm 1) (b := denS C (ng1 tn)) (ds := range_ 0 ps.length) (e := [some (.val (.tup (lp ps))), none, none, none]) (fun _ e => ∃ s1 s2 s3, e = [some (.val (.tup (lp ps))), s1, s2, s3]) ⟨none, none, none, rfl⟩ (fun k d e hd hI => by
    obtain ⟨hk, rfl⟩ := rng_some hd
    obtain ⟨s1, s2, s3, rfl⟩ := hI
    obtain ⟨s2', s3', q⟩ := in2 ht hp h2 k hk s2 s3
    rw [at_int]
    refine ⟨_, [some (.val (.tup (lp ps))), some (.val (.int k)), s2', s3'], rfl, ?_, _, _, _, rfl⟩
    rw [ng_a]
    exact s_last q)
  have e1 : denL C (.rng1 (.prim .len (.cons (.var 0) .nil))) [some (.val (.tup (lp ps))), none, none, none] = .ok (range_ 0 ps.length) [some (.val (.tup (lp ps))), none, none, none] := by
    refine d_rng ?_ (by omega)
    simp (config := { maxDischargeDepth := 20 }) only [runFn, denS, den, denL, List.map, List.replicate, List.length_cons, List.length_nil, R.bind, R.of, R.way, D.tr, D.truth, getV, getO, ioOk, argsOf, afterCall, putIo, Option.isSome, Option.map, Option.bind, bindT, List.set, endOf, List.cons_append, List.nil_append, List.getElem?_cons_zero, List.getElem?_cons_succ, mul_L, add_L, sub_L, L.mul, L.sub, L.add, x_lst, x_tup, x_fz, c_lt, c_le, c_gt, c_ge, c_eq, c_ne, c_eqB, c_neB, c_isNI, c_isNB, p_int, p_abs, p_isInt, p_isIntB, p_isBool, p_isBoolB, p_isTup, p_isLst, p_isLstT, p_isSeqT, p_isSeqL, p_isSeqI, p_isSeqB, p_isStrI, p_isStrB, Nat.reduceAdd, Nat.reduceSub, decide_true, decide_false, Bool.not_true, Bool.not_false, Bool.not_not, q2]
  have e2 : denS C (.exp (.call np none (.cons (.var 0) .nil))) [some (.val (.tup (lp ps))), none, none, none] = .ok .nx [some (.val (.tup (lp ps))), none, none, none] := by
    simp (config := { maxDischargeDepth := 20 }) only [runFn, denS, den, denL, List.map, List.replicate, List.length_cons, List.length_nil, R.bind, R.of, R.way, D.tr, D.truth, getV, getO, ioOk, argsOf, afterCall, putIo, Option.isSome, Option.map, Option.bind, bindT, List.set, endOf, List.cons_append, List.nil_append, List.getElem?_cons_zero, List.getElem?_cons_succ, mul_L, add_L, sub_L, L.mul, L.sub, L.add, x_lst, x_tup, x_fz, c_lt, c_le, c_gt, c_ge, c_eq, c_ne, c_eqB, c_neB, c_isNI, c_isNB, p_int, p_abs, p_isInt, p_isIntB, p_isBool, p_isBoolB, p_isTup, p_isLst, p_isLstT, p_isSeqT, p_isSeqL, p_isSeqI, p_isSeqB, p_isStrI, p_isStrB, Nat.reduceAdd, Nat.reduceSub, decide_true, decide_false, Bool.not_true, Bool.not_false, Bool.not_not, hnp]
  have e3 : denS C (fNeedGeneral np tn).body [some (.val (.tup (lp ps))), none, none, none] = .ok .nx [some (.val (.tup (lp ps))), s1, s2, s3] := by
    rw [ng_c, s_seq e2]
    exact s_last (s_for e1 k)
  exact (run_nx e3).trans rfl
/-! ### the points to the left -/
def Lc (ps : List Pt) (a b : Pt) : Nat := (ps.filter fun p => decide (0 < dbl a b p)).length
/-- their indexes -/
def lix (ps : List Pt) (a b : Pt) : List Nat := (List.range ps.length).filter fun k => (ps[k]?).any fun p => decide (0 < dbl a b p)
theorem lix_len (ps : List Pt) (a b : Pt) : (lix ps a b).length = Lc ps a b := by
  have : ∀ n, n ≤ ps.length → ((List.range n).filter fun k => (ps[k]?).any fun p => decide (0 < dbl a b p)).length = ((ps.take n).filter fun p => decide (0 < dbl a b p)).length := by
    intro n
    induction n with
    | zero => intro _; rfl
    | succ n ih =>
      intro h
      have hr : ps[n]? = some ps[n] := List.getElem?_eq_getElem (by omega)
      rw [List.range_succ, List.filter_append, List.take_succ, List.filter_append, List.length_append, List.length_append, ih (by omega), hr]
      generalize ps[n] = r at *
      congr 1
      by_cases c : 0 < dbl a b r
      · simp [hr, c]
      · simp [hr, c]
  have := this ps.length (Nat.le_refl _)
  rw [List.take_length] at this
  exact this
def LfS (C : Ctx) (f : Nat) : Prop := ∀ (ps : List Pt) (a b : Pt), (∀ p ∈ ps, Good p) → Good a → Good b → ps.length ≤ 40 → C.call f [.val (.tup (lp ps)), .val a.d, .val b.d] = .ok (.lst ((lix ps a b).map fun k => D.int (k : Nat))) []
theorem run_lefts {a b : Pt} (ht : TrnS C tn) (hp : ∀ p ∈ ps, Good p) (ha : Good a) (hb : Good b) (h2 : ps.length ≤ 40) : runFn C (fLefts tn) [.val (.tup (lp ps)), .val a.d, .val b.d] = .ok (.lst ((lix ps a b).map fun k => D.int (k : Nat))) [] := by
  have q2 := len_ptsT (ps := ps) (by omega)
  have e : ((lix ps a b).map fun k => D.int (k : Nat)) = ((range_ 0 ps.length).filter fun d => match d with
      | .int k => (ps[k.toNat]?).any fun p => decide (0 < dbl a b p)
      | _ => false).map id := by
    rw [List.map_id, rng_map, List.filter_map]
    unfold lix
    have e1 : ((fun d => match d with
        | D.int k => (ps[k.toNat]?).any fun p => decide (0 < dbl a b p)
        | _ => false) ∘ fun (j : Nat) => D.int (0 + (j : Int))) = fun k => (ps[k]?).any fun p => decide (0 < dbl a b p) := by
      funext j
      show ((ps[((0 : Int) + j).toNat]?).any fun p => decide (0 < dbl a b p)) = _
      rw [at_int, Int.toNat_natCast]
    rw [e1]
    exact congrArg (fun f => List.map f ((List.range ps.length).filter fun k => (ps[k]?).any fun p => decide (0 < dbl a b p))) (funext fun j => by rw [at_int])
  rw [e]
  refine (run_rt (s_ret (lc_nm (ds := range_ 0 ps.length) ?_ rfl (fun d hd => ?_) (fun d hd _ => ?_) (by rw [rng_len]; exact Nat.le_trans h2 (by decide))))).trans rfl
  · refine d_rng ?_ (by omega)
    simp (config := { maxDischargeDepth := 20 }) only [runFn, denS, den, denL, List.map, List.replicate, List.length_cons, List.length_nil, R.bind, R.of, R.way, D.tr, D.truth, getV, getO, ioOk, argsOf, afterCall, putIo, Option.isSome, Option.map, Option.bind, bindT, List.set, endOf, List.cons_append, List.nil_append, List.getElem?_cons_zero, List.getElem?_cons_succ, mul_L, add_L, sub_L, L.mul, L.sub, L.add, x_lst, x_tup, x_fz, c_lt, c_le, c_gt, c_ge, c_eq, c_ne, c_eqB, c_neB, c_isNI, c_isNB, p_int, p_abs, p_isInt, p_isIntB, p_isBool, p_isBoolB, p_isTup, p_isLst, p_isLstT, p_isSeqT, p_isSeqL, p_isSeqI, p_isSeqB, p_isStrI, p_isStrB, Nat.reduceAdd, Nat.reduceSub, decide_true, decide_false, Bool.not_true, Bool.not_false, Bool.not_not, List.replicate, fLefts, q2]
  · obtain ⟨j, hj⟩ := List.mem_iff_getElem?.mp hd
    obtain ⟨hl, rfl⟩ := rng_some hj
    rw [at_int]
    have hrj : ps[j]? = some ps[j] := List.getElem?_eq_getElem hl
    have aj := at_pt hrj
    have mj := List.mem_of_getElem? hrj
    have e2 : (match D.int (j : Int) with
      | .int k => (ps[k.toNat]?).any fun p => decide (0 < dbl a b p)
      | _ => false) = (ps[j]?).any fun p => decide (0 < dbl a b p) := rfl
    rw [e2, hrj]
    generalize ps[j] = r at *
    have q := ht a b r ha.sz hb.sz (hp r mj).sz ha.wne
    have z := sgnp (dbl a b r)
    show _ = R.ok (D.bl (decide (0 < dbl a b r))) _
    simp (config := { maxDischargeDepth := 20 }) only [runFn, denS, den, denL, List.map, List.replicate, List.length_cons, List.length_nil, R.bind, R.of, R.way, D.tr, D.truth, getV, getO, ioOk, argsOf, afterCall, putIo, Option.isSome, Option.map, Option.bind, bindT, List.set, endOf, List.cons_append, List.nil_append, List.getElem?_cons_zero, List.getElem?_cons_succ, mul_L, add_L, sub_L, L.mul, L.sub, L.add, x_lst, x_tup, x_fz, c_lt, c_le, c_gt, c_ge, c_eq, c_ne, c_eqB, c_neB, c_isNI, c_isNB, p_int, p_abs, p_isInt, p_isIntB, p_isBool, p_isBoolB, p_isTup, p_isLst, p_isLstT, p_isSeqT, p_isSeqL, p_isSeqI, p_isSeqB, p_isStrI, p_isStrB, Nat.reduceAdd, Nat.reduceSub, decide_true, decide_false, Bool.not_true, Bool.not_false, Bool.not_not, List.replicate, fLefts, aj, q, z]
  · obtain ⟨j, hj⟩ := List.mem_iff_getElem?.mp hd
    obtain ⟨hl, rfl⟩ := rng_some hj
    rfl
end
end Ev
set_option Elab.async false
set_option linter.all false
set_option maxRecDepth 100000
set_option maxHeartbeats 4000000
set_option autoImplicit false
/-! Pl12: how many points lie to the left of the ways through two of them; halving pairs. -/
namespace Ev
/-! ### numbers counted in a list -/
def hist (m : Nat) (ks : List Nat) : List D := (List.range m).map fun i => D.int ((ks.count i : Nat) : Int)
theorem hist_len {m : Nat} {ks : List Nat} : (hist m ks).length = m := by
  unfold hist
  rw [List.length_map, List.length_range]
theorem hist_get {m k : Nat} {ks : List Nat} (h : k < m) : at_ (hist m ks) (k : Int) = some (.int ((ks.count k : Nat) : Int)) := by
  unfold at_
  show (place (hist m ks).length (Int.ofNat k)).bind _ = _
  rw [place_nn (by rw [hist_len]; exact h)]
  show (hist m ks)[k]? = _
  unfold hist
  rw [List.getElem?_map, List.getElem?_range h]
  rfl
theorem hist_set {m k : Nat} {ks : List Nat} (h : k < m) : setAt (hist m ks) (.int (k : Int)) (.int (((ks.count k : Nat) : Int) + 1)) = some (hist m (ks ++ [k])) := by
  show (place (hist m ks).length (Int.ofNat k)).map _ = _
  rw [place_nn (by rw [hist_len]; exact h)]
  show some ((hist m ks).set k _) = _
  congr 1
  apply List.ext_getElem?
  intro i
  rw [List.getElem?_set, hist_len, if_pos h]
  unfold hist
  by_cases hi : i < m
  · rw [List.getElem?_map, List.getElem?_map, List.getElem?_range hi]
    show (if k = i then _ else some (D.int ((ks.count i : Nat) : Int))) = some (D.int (((ks ++ [k]).count i : Nat) : Int))
    rw [List.count_append]
    by_cases c : k = i
    · subst c
      simp
    · rw [if_neg c]
      simp [c]
  · rw [List.getElem?_eq_none (by rw [List.length_map, List.length_range]; omega), List.getElem?_eq_none (by rw [List.length_map, List.length_range]; omega), if_neg (by omega)]
theorem hist_nil {z : Int} {m : Nat} (h : z = (m : Int)) (hm : m ≤ 1000) : binop .mul (.lst [.int 0]) (.int z) = some (.lst (hist m [])) := by
  subst h
  have e : (List.replicate (m : Int).toNat [D.int 0]).flatten = hist m [] := by
    rw [Int.toNat_natCast]
    apply List.ext_getElem?
    intro i
    unfold hist
    rw [show (List.replicate m [D.int 0]).flatten = List.replicate m (D.int 0) by
      clear hm
      induction m with
      | zero => rfl
      | succ m ih => rw [List.replicate_succ, List.replicate_succ, List.flatten_cons, ih]; rfl]
    by_cases hi : i < m
    · rw [List.getElem?_map, List.getElem?_range hi, List.getElem?_replicate, if_pos hi]
      rfl
    · rw [List.getElem?_eq_none (by rw [List.length_replicate]; omega), List.getElem?_eq_none (by rw [List.length_map, List.length_range]; omega)]
  show (if [D.int 0].length * (m : Int).toNat ≤ lim ∧ -(2 ^ 63) ≤ (m : Int) ∧ (m : Int) < 2 ^ 63 then some (D.lst (List.replicate (m : Int).toNat [D.int 0]).flatten) else none) = _
  rw [if_pos ⟨by show 1 * _ ≤ 16000000; omega, by omega, by omega⟩, e]
def kk (ps : List Pt) (a b : Pt) : List Nat := if a = b then [] else [Lc ps a b]
def lks (ps qs : List Pt) (a : Pt) : List Nat := qs.flatMap (kk ps a)
def kss (ps qs : List Pt) : List Nat := qs.flatMap (lks ps ps)
theorem fm_take {α β : Type} {f : α → List β} {l : List α} {j : Nat} {p : α} (h : l[j]? = some p) : (l.take (j + 1)).flatMap f = (l.take j).flatMap f ++ f p := by
  rw [List.take_add_one, h, List.flatMap_append]
  simp
theorem Lc_lt {ps : List Pt} {a b : Pt} (h : ps.Nodup) (ha : a ∈ ps) (hb : b ∈ ps) (hab : a ≠ b) : Lc ps a b + 2 ≤ ps.length := by
  have := nodup_le (l := a :: b :: ps.filter fun p => decide (0 < dbl a b p)) (m := ps) ?_ ?_
  · exact this
  · refine List.nodup_cons.mpr ⟨fun z => ?_, List.nodup_cons.mpr ⟨fun z => ?_, h.filter _⟩⟩
    · rcases List.mem_cons.mp z with z | z
      · exact hab z
      · have := (List.mem_filter.mp z).2
        rw [dbl_aba] at this
        simp at this
    · have := (List.mem_filter.mp z).2
      rw [dbl_abb] at this
      simp at this
  · intro x hx
    rcases List.mem_cons.mp hx with rfl | hx
    · exact ha
    · rcases List.mem_cons.mp hx with rfl | hx
      · exact hb
      · exact (List.mem_filter.mp hx).1
section
variable {C : Ctx} {tn lf ng : Nat} {ps : List Pt}
/-- a comprehension that keeps the points to the left -/
theorem lc_left {i : Nat} {src A B : Ex} {a b : Pt} {e : Env} (ht : TrnS C tn) (hg : ∀ p ∈ ps, Good p) (ga : Good a) (gb : Good b) (hl : ps.length ≤ 40) (hs : denL C src e = .ok (lp ps) e) (hi : getO e i = none) (hA : ∀ d, den C A (e.set i (some (.val d))) = .ok a.d (e.set i (some (.val d))))
    (hB : ∀ d, den C B (e.set i (some (.val d))) = .ok b.d (e.set i (some (.val d)))) (hv : ∀ d, den C (.var i) (e.set i (some (.val d))) = .ok d (e.set i (some (.val d)))) :
    den C (.lc [i] (.nm i) src (.cmp .gt (.call tn none (.cons A (.cons B (.cons (.var i) .nil)))) (.lit (.int 0))) (.var i)) e = .ok (.lst (lp (ps.filter fun p => decide (0 < dbl a b p)))) e := by
  have ee : lp (ps.filter fun p => decide (0 < dbl a b p)) = ((lp ps).filter fun d => match d with
      | .tup [.int x, .int y, .int w] => decide (0 < dbl a b ⟨x, y, w⟩)
      | _ => false).map id := by
    rw [List.map_id, List.filter_map]
    rfl
  rw [ee]
  refine lc_nm (ds := lp ps) hs hi (fun d hd => ?_) (fun d hd _ => hv d) (by rw [List.length_map]; exact Nat.le_trans hl (by decide))
  obtain ⟨q, hq, rfl⟩ := List.mem_map.mp hd
  have tq := ht a b q ga.sz gb.sz (hg q hq).sz ga.wne
  have z := sgnp (dbl a b q)
  show _ = R.ok (D.bl (decide (0 < dbl a b q))) _
  have h1 := hA q.d
  have h2 := hB q.d
  have h3 := hv q.d
  have e1 : den C (.call tn none (.cons A (.cons B (.cons (.var i) .nil)))) (e.set i (some (.val q.d))) = .ok (.int (sgn (dbl a b q))) (e.set i (some (.val q.d))) := by
    generalize e.set i (some (.val q.d)) = e' at *
    have e2 : denL C (.cons A (.cons B (.cons (.var i) .nil))) e' = .ok [a.d, b.d, q.d] e' := by
      simp only [denL]
      rw [h1]
      show R.bind (R.bind (den C B e') _) _ = _
      rw [h2]
      show R.bind (R.bind (R.bind (den C (.var i) e') _) _) _ = _
      rw [h3]
      rfl
    have e3 : den C (.call tn none (.cons A (.cons B (.cons (.var i) .nil)))) e' = (denL C (.cons A (.cons B (.cons (.var i) .nil))) e').bind fun ds e => afterCall none (C.call tn (ds.map Sl.val)) e := rfl
    rw [e3, e2]
    show afterCall none (C.call tn [.val a.d, .val b.d, .val q.d]) e' = _
    rw [tq]
    rfl
  have e4 : den C (.cmp .gt (.call tn none (.cons A (.cons B (.cons (.var i) .nil)))) (.lit (.int 0))) (e.set i (some (.val q.d))) = (den C (.call tn none (.cons A (.cons B (.cons (.var i) .nil)))) (e.set i (some (.val q.d)))).bind fun x e => R.of ((cmpop .gt x (.int 0)).map D.bl) e := rfl
  rw [e4, e1]
  show R.ok (D.bl (decide (0 < sgn (dbl a b q)))) _ = _
  rw [z]
/-! ### left counts -/
def lcb1 (lf : Nat) : Sm := bodyOf (stm (fLeftCounts 0 lf).body 4)
def lcb2 (lf : Nat) : Sm := bodyOf (stm (lcb1 lf) 0)
theorem lcb_a (lf : Nat) : lcb1 lf = .cons (.for_ (.nm 4) (.items (.var 0)) (lcb2 lf)) .nil := rfl
theorem p_lix {a b : Pt} (h : (lix ps a b).length ≤ 1000) : prim .len [.lst ((lix ps a b).map fun k => D.int (k : Nat))] = some (.int ((Lc ps a b : Nat) : Int)) := by
  show (if ((lix ps a b).map fun k => D.int (k : Nat)).length ≤ lim then some (D.int ((((lix ps a b).map fun k => D.int (k : Nat)).length : Nat) : Int)) else none) = _
  rw [List.length_map, if_pos (Nat.le_trans h (by decide)), lix_len]
theorem lix_le {a b : Pt} : (lix ps a b).length ≤ ps.length := by
  unfold lix
  exact Nat.le_trans (List.length_filter_le _ _) (by rw [List.length_range]; omega)
theorem lc_st2 {n : Int} {m : Nat} {ks : List Nat} {a b : Pt} (hlf : LfS C lf) (hp : Oks ps) (h2 : ps.length ≤ 40) (ha : a ∈ ps) (hb : b ∈ ps) (hm : m + 1 = ps.length) :
    denS C (lcb2 lf) [some (.val (.tup (lp ps))), some (.val (.int n)), some (.own (hist m ks)), some (.val a.d), some (.val b.d)] = .ok .nx [some (.val (.tup (lp ps))), some (.val (.int n)), some (.own (hist m (ks ++ kk ps a b))), some (.val a.d), some (.val b.d)] := by
  unfold kk
  by_cases c : a = b
  · rw [if_pos c, List.append_nil]
    have d : decide (a = b) = true := decide_eq_true c
    simp (config := { maxDischargeDepth := 20 }) only [runFn, denS, den, denL, List.map, List.replicate, List.length_cons, List.length_nil, R.bind, R.of, R.way, D.tr, D.truth, getV, getO, ioOk, argsOf, afterCall, putIo, Option.isSome, Option.map, Option.bind, bindT, List.set, endOf, List.cons_append, List.nil_append, List.getElem?_cons_zero, List.getElem?_cons_succ, mul_L, add_L, sub_L, L.mul, L.sub, L.add, x_lst, x_tup, x_fz, c_lt, c_le, c_gt, c_ge, c_eq, c_ne, c_eqB, c_neB, c_isNI, c_isNB, p_int, p_abs, p_isInt, p_isIntB, p_isBool, p_isBoolB, p_isTup, p_isLst, p_isLstT, p_isSeqT, p_isSeqL, p_isSeqI, p_isSeqB, p_isStrI, p_isStrB, Nat.reduceAdd, Nat.reduceSub, decide_true, decide_false, Bool.not_true, Bool.not_false, Bool.not_not, lcb2, lcb1, bodyOf, stm, fLeftCounts, c_neP, d]
  · rw [if_neg c]
    have d : decide (a = b) = false := decide_eq_false c
    have lt := Lc_lt hp.gen.nd ha hb c
    have q := hlf ps a b hp.gd (hp.gd a ha) (hp.gd b hb) h2
    have ql := p_lix (ps := ps) (a := a) (b := b) (Nat.le_trans lix_le (by omega))
    have g := hist_get (m := m) (ks := ks) (k := Lc ps a b) (by omega)
    have st := hist_set (m := m) (ks := ks) (k := Lc ps a b) (by omega)
    simp (config := { maxDischargeDepth := 20 }) only [runFn, denS, den, denL, List.map, List.replicate, List.length_cons, List.length_nil, R.bind, R.of, R.way, D.tr, D.truth, getV, getO, ioOk, argsOf, afterCall, putIo, Option.isSome, Option.map, Option.bind, bindT, List.set, endOf, List.cons_append, List.nil_append, List.getElem?_cons_zero, List.getElem?_cons_succ, mul_L, add_L, sub_L, L.mul, L.sub, L.add, x_lst, x_tup, x_fz, c_lt, c_le, c_gt, c_ge, c_eq, c_ne, c_eqB, c_neB, c_isNI, c_isNB, p_int, p_abs, p_isInt, p_isIntB, p_isBool, p_isBoolB, p_isTup, p_isLst, p_isLstT, p_isSeqT, p_isSeqL, p_isSeqI, p_isSeqB, p_isStrI, p_isStrB, Nat.reduceAdd, Nat.reduceSub, decide_true, decide_false, Bool.not_true, Bool.not_false, Bool.not_not, lcb2, lcb1, bodyOf, stm, fLeftCounts, c_neP, d, q, ql, g, augop, st]
theorem lc_st1 {n : Int} {m : Nat} {ks : List Nat} {a : Pt} {s4 : Option Sl} (hlf : LfS C lf) (hp : Oks ps) (h2 : ps.length ≤ 40) (ha : a ∈ ps) (hm : m + 1 = ps.length) :
    ∃ s4', denS C (lcb1 lf) [some (.val (.tup (lp ps))), some (.val (.int n)), some (.own (hist m ks)), some (.val a.d), s4] = .ok .nx [some (.val (.tup (lp ps))), some (.val (.int n)), some (.own (hist m (ks ++ lks ps ps a))), some (.val a.d), s4'] := by
  obtain ⟨e', k, s, rfl⟩ := for_all (t := .nm 4) (b := denS C (lcb2 lf)) (ds := lp ps) (e := [some (.val (.tup (lp ps))), some (.val (.int n)), some (.own (hist m ks)), some (.val a.d), s4]) (fun j e => ∃ s, e = [some (.val (.tup (lp ps))), some (.val (.int n)), some (.own (hist m (ks ++ (ps.take j).flatMap (kk ps a)))), some (.val a.d), s]) ⟨s4, by rw [List.take_zero, List.flatMap_nil, List.append_nil]⟩ (fun j d e hd hI => by
    obtain ⟨p, hp', rfl⟩ := pts_get hd
    obtain ⟨s, rfl⟩ := hI
    refine ⟨_, _, rfl, lc_st2 hlf hp h2 ha (List.mem_of_getElem? hp') hm, some (.val p.d), ?_⟩
    rw [fm_take hp', List.append_assoc])
  rw [List.length_map, List.take_length] at k
  refine ⟨s, ?_⟩
  rw [lcb_a]
  refine s_last (s_for (ds := lp ps) ?_ k)
  simp (config := { maxDischargeDepth := 20 }) only [runFn, denS, den, denL, List.map, List.replicate, List.length_cons, List.length_nil, R.bind, R.of, R.way, D.tr, D.truth, getV, getO, ioOk, argsOf, afterCall, putIo, Option.isSome, Option.map, Option.bind, bindT, List.set, endOf, List.cons_append, List.nil_append, List.getElem?_cons_zero, List.getElem?_cons_succ, mul_L, add_L, sub_L, L.mul, L.sub, L.add, x_lst, x_tup, x_fz, c_lt, c_le, c_gt, c_ge, c_eq, c_ne, c_eqB, c_neB, c_isNI, c_isNB, p_int, p_abs, p_isInt, p_isIntB, p_isBool, p_isBoolB, p_isTup, p_isLst, p_isLstT, p_isSeqT, p_isSeqL, p_isSeqI, p_isSeqB, p_isStrI, p_isStrB, Nat.reduceAdd, Nat.reduceSub, decide_true, decide_false, Bool.not_true, Bool.not_false, Bool.not_not]
theorem run_left_counts {m : Nat} (hng : C.call ng [.val (.tup (lp ps))] = .ok .non []) (hlf : LfS C lf) (hp : Oks ps) (h1 : 2 ≤ ps.length) (h2 : ps.length ≤ 40) (hm : m + 1 = ps.length) : runFn C (fLeftCounts ng lf) [.val (.tup (lp ps))] = .ok (.tup (hist m (kss ps ps))) [] := by
  obtain ⟨e', k, s3, s4, rfl⟩ := for_all (t := .nm 3) (b := denS C (lcb1 lf)) (ds := lp ps) (e := [some (.val (.tup (lp ps))), some (.val (.int ps.length)), some (.own (hist m [])), none, none]) (fun j e => ∃ s3 s4, e = [some (.val (.tup (lp ps))), some (.val (.int ps.length)), some (.own (hist m ((ps.take j).flatMap (lks ps ps)))), s3, s4]) ⟨none, none, by rw [List.take_zero, List.flatMap_nil]⟩ (fun j d e hd hI => by
    obtain ⟨p, hp', rfl⟩ := pts_get hd
    obtain ⟨s3, s4, rfl⟩ := hI
    obtain ⟨s4', q⟩ := lc_st1 (n := (ps.length : Int)) (ks := (ps.take j).flatMap (lks ps ps)) (s4 := s4) hlf hp h2 (List.mem_of_getElem? hp') hm
    refine ⟨_, _, rfl, q, some (.val p.d), s4', ?_⟩
    rw [fm_take hp'])
  rw [List.length_map, List.take_length] at k
  have q2 := len_ptsT (ps := ps) (by omega)
  have d2 : decide ((ps.length : Int) < 2) = false := decide_eq_false (by omega)
  have hn := hist_nil (z := (ps.length : Int) - 1) (m := m) (by omega) (by omega)
  have e : denS C (fLeftCounts ng lf).body [some (.val (.tup (lp ps))), none, none, none, none] = .ok (.rt (.tup (hist m (kss ps ps)))) [some (.val (.tup (lp ps))), some (.val (.int ps.length)), some (.val (.lst (hist m (kss ps ps)))), s3, s4] := by
    show denS C (drp (fLeftCounts ng lf).body 0) _ = _
    refine Eq.trans (step rfl (e' := [some (.val (.tup (lp ps))), none, none, none, none]) ?_) ?_
    · simp (config := { maxDischargeDepth := 20 }) only [runFn, denS, den, denL, List.map, List.replicate, List.length_cons, List.length_nil, R.bind, R.of, R.way, D.tr, D.truth, getV, getO, ioOk, argsOf, afterCall, putIo, Option.isSome, Option.map, Option.bind, bindT, List.set, endOf, List.cons_append, List.nil_append, List.getElem?_cons_zero, List.getElem?_cons_succ, mul_L, add_L, sub_L, L.mul, L.sub, L.add, x_lst, x_tup, x_fz, c_lt, c_le, c_gt, c_ge, c_eq, c_ne, c_eqB, c_neB, c_isNI, c_isNB, p_int, p_abs, p_isInt, p_isIntB, p_isBool, p_isBoolB, p_isTup, p_isLst, p_isLstT, p_isSeqT, p_isSeqL, p_isSeqI, p_isSeqB, p_isStrI, p_isStrB, Nat.reduceAdd, Nat.reduceSub, decide_true, decide_false, Bool.not_true, Bool.not_false, Bool.not_not, stm, fLeftCounts, hng]
    refine Eq.trans (step rfl (e' := [some (.val (.tup (lp ps))), some (.val (.int ps.length)), none, none, none]) ?_) ?_
    · simp (config := { maxDischargeDepth := 20 }) only [runFn, denS, den, denL, List.map, List.replicate, List.length_cons, List.length_nil, R.bind, R.of, R.way, D.tr, D.truth, getV, getO, ioOk, argsOf, afterCall, putIo, Option.isSome, Option.map, Option.bind, bindT, List.set, endOf, List.cons_append, List.nil_append, List.getElem?_cons_zero, List.getElem?_cons_succ, mul_L, add_L, sub_L, L.mul, L.sub, L.add, x_lst, x_tup, x_fz, c_lt, c_le, c_gt, c_ge, c_eq, c_ne, c_eqB, c_neB, c_isNI, c_isNB, p_int, p_abs, p_isInt, p_isIntB, p_isBool, p_isBoolB, p_isTup, p_isLst, p_isLstT, p_isSeqT, p_isSeqL, p_isSeqI, p_isSeqB, p_isStrI, p_isStrB, Nat.reduceAdd, Nat.reduceSub, decide_true, decide_false, Bool.not_true, Bool.not_false, Bool.not_not, stm, fLeftCounts, q2]
    refine Eq.trans (step rfl (e' := [some (.val (.tup (lp ps))), some (.val (.int ps.length)), none, none, none]) ?_) ?_
    · simp (config := { maxDischargeDepth := 20 }) only [runFn, denS, den, denL, List.map, List.replicate, List.length_cons, List.length_nil, R.bind, R.of, R.way, D.tr, D.truth, getV, getO, ioOk, argsOf, afterCall, putIo, Option.isSome, Option.map, Option.bind, bindT, List.set, endOf, List.cons_append, List.nil_append, List.getElem?_cons_zero, List.getElem?_cons_succ, mul_L, add_L, sub_L, L.mul, L.sub, L.add, x_lst, x_tup, x_fz, c_lt, c_le, c_gt, c_ge, c_eq, c_ne, c_eqB, c_neB, c_isNI, c_isNB, p_int, p_abs, p_isInt, p_isIntB, p_isBool, p_isBoolB, p_isTup, p_isLst, p_isLstT, p_isSeqT, p_isSeqL, p_isSeqI, p_isSeqB, p_isStrI, p_isStrB, Nat.reduceAdd, Nat.reduceSub, decide_true, decide_false, Bool.not_true, Bool.not_false, Bool.not_not, stm, fLeftCounts, d2]
    refine Eq.trans (step rfl (e' := [some (.val (.tup (lp ps))), some (.val (.int ps.length)), some (.own (hist m [])), none, none]) ?_) ?_
    · simp (config := { maxDischargeDepth := 20 }) only [runFn, denS, den, denL, List.map, List.replicate, List.length_cons, List.length_nil, R.bind, R.of, R.way, D.tr, D.truth, getV, getO, ioOk, argsOf, afterCall, putIo, Option.isSome, Option.map, Option.bind, bindT, List.set, endOf, List.cons_append, List.nil_append, List.getElem?_cons_zero, List.getElem?_cons_succ, mul_L, add_L, sub_L, L.mul, L.sub, L.add, x_lst, x_tup, x_fz, c_lt, c_le, c_gt, c_ge, c_eq, c_ne, c_eqB, c_neB, c_isNI, c_isNB, p_int, p_abs, p_isInt, p_isIntB, p_isBool, p_isBoolB, p_isTup, p_isLst, p_isLstT, p_isSeqT, p_isSeqL, p_isSeqI, p_isSeqB, p_isStrI, p_isStrB, Nat.reduceAdd, Nat.reduceSub, decide_true, decide_false, Bool.not_true, Bool.not_false, Bool.not_not, stm, fLeftCounts, hn, lim1, ↓reduceIte]
    refine Eq.trans (step rfl (e' := [some (.val (.tup (lp ps))), some (.val (.int ps.length)), some (.own (hist m (kss ps ps))), s3, s4]) ?_) ?_
    · show denS C (.for_ (.nm 3) (.items (.var 0)) (lcb1 lf)) _ = _
      refine s_for (ds := lp ps) ?_ k
      simp (config := { maxDischargeDepth := 20 }) only [runFn, denS, den, denL, List.map, List.replicate, List.length_cons, List.length_nil, R.bind, R.of, R.way, D.tr, D.truth, getV, getO, ioOk, argsOf, afterCall, putIo, Option.isSome, Option.map, Option.bind, bindT, List.set, endOf, List.cons_append, List.nil_append, List.getElem?_cons_zero, List.getElem?_cons_succ, mul_L, add_L, sub_L, L.mul, L.sub, L.add, x_lst, x_tup, x_fz, c_lt, c_le, c_gt, c_ge, c_eq, c_ne, c_eqB, c_neB, c_isNI, c_isNB, p_int, p_abs, p_isInt, p_isIntB, p_isBool, p_isBoolB, p_isTup, p_isLst, p_isLstT, p_isSeqT, p_isSeqL, p_isSeqI, p_isSeqB, p_isStrI, p_isStrB, Nat.reduceAdd, Nat.reduceSub, decide_true, decide_false, Bool.not_true, Bool.not_false, Bool.not_not]
    rfl
  exact (run_rt e).trans rfl
/-! ### the law's own -/
def llb1 (tn : Nat) : Sm := bodyOf (stm (fLLeftCounts tn).body 1)
def llb2 (tn : Nat) : Sm := bodyOf (stm (llb1 tn) 0)
def llb3 (tn : Nat) : Sm := bodyOf (stm (llb2 tn) 0)
theorem llb_a (tn : Nat) : llb1 tn = .cons (.for_ (.nm 3) (.items (.var 0)) (llb2 tn)) .nil := rfl
theorem ll_st2 {m : Nat} {ks : List Nat} {a b : Pt} {s4 : Option Sl} (ht : TrnS C tn) (hp : Oks ps) (h2 : ps.length ≤ 40) (ha : a ∈ ps) (hb : b ∈ ps) (hm : m + 1 = ps.length) :
    ∃ s4', denS C (llb2 tn) [some (.val (.tup (lp ps))), some (.own (hist m ks)), some (.val a.d), some (.val b.d), s4, none] = .ok .nx [some (.val (.tup (lp ps))), some (.own (hist m (ks ++ kk ps a b))), some (.val a.d), some (.val b.d), s4', none] := by
  unfold kk
  by_cases c : a = b
  · rw [if_pos c, List.append_nil]
    have d : decide (a = b) = true := decide_eq_true c
    refine ⟨s4, ?_⟩
    simp (config := { maxDischargeDepth := 20 }) only [runFn, denS, den, denL, List.map, List.replicate, List.length_cons, List.length_nil, R.bind, R.of, R.way, D.tr, D.truth, getV, getO, ioOk, argsOf, afterCall, putIo, Option.isSome, Option.map, Option.bind, bindT, List.set, endOf, List.cons_append, List.nil_append, List.getElem?_cons_zero, List.getElem?_cons_succ, mul_L, add_L, sub_L, L.mul, L.sub, L.add, x_lst, x_tup, x_fz, c_lt, c_le, c_gt, c_ge, c_eq, c_ne, c_eqB, c_neB, c_isNI, c_isNB, p_int, p_abs, p_isInt, p_isIntB, p_isBool, p_isBoolB, p_isTup, p_isLst, p_isLstT, p_isSeqT, p_isSeqL, p_isSeqI, p_isSeqB, p_isStrI, p_isStrB, Nat.reduceAdd, Nat.reduceSub, decide_true, decide_false, Bool.not_true, Bool.not_false, Bool.not_not, llb2, llb1, bodyOf, stm, fLLeftCounts, c_neP, d]
  · rw [if_neg c]
    have d : decide (a = b) = false := decide_eq_false c
    have lt := Lc_lt hp.gen.nd ha hb c
    have g := hist_get (m := m) (ks := ks) (k := Lc ps a b) (by omega)
    have st := hist_set (m := m) (ks := ks) (k := Lc ps a b) (by omega)
    have k1 := lc_left (C := C) (tn := tn) (i := 5) (src := .items (.var 0)) (A := .var 2) (B := .var 3) (a := a) (b := b) (e := [some (.val (.tup (lp ps))), some (.own (hist m ks)), some (.val a.d), some (.val b.d), s4, none]) ht hp.gd (hp.gd a ha) (hp.gd b hb) h2 (by simp (config := { maxDischargeDepth := 20 }) only [runFn, denS, den, denL, List.map, List.replicate, List.length_cons, List.length_nil, R.bind, R.of, R.way, D.tr, D.truth, getV, getO, ioOk, argsOf, afterCall, putIo, Option.isSome, Option.map, Option.bind, bindT, List.set, endOf, List.cons_append, List.nil_append, List.getElem?_cons_zero, List.getElem?_cons_succ, mul_L, add_L, sub_L, L.mul, L.sub, L.add, x_lst, x_tup, x_fz, c_lt, c_le, c_gt, c_ge, c_eq, c_ne, c_eqB, c_neB, c_isNI, c_isNB, p_int, p_abs, p_isInt, p_isIntB, p_isBool, p_isBoolB, p_isTup, p_isLst, p_isLstT, p_isSeqT, p_isSeqL, p_isSeqI, p_isSeqB, p_isStrI, p_isStrB, Nat.reduceAdd, Nat.reduceSub, decide_true, decide_false, Bool.not_true, Bool.not_false, Bool.not_not]) rfl (fun d => rfl) (fun d => rfl) (fun d => rfl)
    have k2 := d_len k1 (by rw [List.length_map]; exact Nat.le_trans (List.length_filter_le _ _) (Nat.le_trans h2 (by decide)))
    rw [List.length_map] at k2
    refine ⟨some (.val (.int ((Lc ps a b : Nat) : Int))), ?_⟩
    have e1 : den C (.cmp .ne (.var 2) (.var 3)) [some (.val (.tup (lp ps))), some (.own (hist m ks)), some (.val a.d), some (.val b.d), s4, none] = .ok (.bl true) [some (.val (.tup (lp ps))), some (.own (hist m ks)), some (.val a.d), some (.val b.d), s4, none] := by
      simp (config := { maxDischargeDepth := 20 }) only [runFn, denS, den, denL, List.map, List.replicate, List.length_cons, List.length_nil, R.bind, R.of, R.way, D.tr, D.truth, getV, getO, ioOk, argsOf, afterCall, putIo, Option.isSome, Option.map, Option.bind, bindT, List.set, endOf, List.cons_append, List.nil_append, List.getElem?_cons_zero, List.getElem?_cons_succ, mul_L, add_L, sub_L, L.mul, L.sub, L.add, x_lst, x_tup, x_fz, c_lt, c_le, c_gt, c_ge, c_eq, c_ne, c_eqB, c_neB, c_isNI, c_isNB, p_int, p_abs, p_isInt, p_isIntB, p_isBool, p_isBoolB, p_isTup, p_isLst, p_isLstT, p_isSeqT, p_isSeqL, p_isSeqI, p_isSeqB, p_isStrI, p_isStrB, Nat.reduceAdd, Nat.reduceSub, decide_true, decide_false, Bool.not_true, Bool.not_false, Bool.not_not, c_neP, d]
    have e2 : denS C (stm (llb3 tn) 0) [some (.val (.tup (lp ps))), some (.own (hist m ks)), some (.val a.d), some (.val b.d), s4, none] = .ok .nx [some (.val (.tup (lp ps))), some (.own (hist m ks)), some (.val a.d), some (.val b.d), some (.val (.int ((Lc ps a b : Nat) : Int))), none] := by
      show ((den C (.prim .len (.cons (.lc [5] (.nm 5) (.items (.var 0)) (.cmp .gt (.call tn none (.cons (.var 2) (.cons (.var 3) (.cons (.var 5) .nil)))) (.lit (.int 0))) (.var 5)) .nil)) _).bind fun d e => match bindT (.nm 4) d e with
        | some e => R.ok Fl.nx e
        | none => .no) = _
      rw [k2]
      rfl
    have e3 : denS C (stm (llb3 tn) 1) [some (.val (.tup (lp ps))), some (.own (hist m ks)), some (.val a.d), some (.val b.d), some (.val (.int ((Lc ps a b : Nat) : Int))), none] = .ok .nx [some (.val (.tup (lp ps))), some (.own (hist m (ks ++ [Lc ps a b]))), some (.val a.d), some (.val b.d), some (.val (.int ((Lc ps a b : Nat) : Int))), none] := by
      simp (config := { maxDischargeDepth := 20 }) only [runFn, denS, den, denL, List.map, List.replicate, List.length_cons, List.length_nil, R.bind, R.of, R.way, D.tr, D.truth, getV, getO, ioOk, argsOf, afterCall, putIo, Option.isSome, Option.map, Option.bind, bindT, List.set, endOf, List.cons_append, List.nil_append, List.getElem?_cons_zero, List.getElem?_cons_succ, mul_L, add_L, sub_L, L.mul, L.sub, L.add, x_lst, x_tup, x_fz, c_lt, c_le, c_gt, c_ge, c_eq, c_ne, c_eqB, c_neB, c_isNI, c_isNB, p_int, p_abs, p_isInt, p_isIntB, p_isBool, p_isBoolB, p_isTup, p_isLst, p_isLstT, p_isSeqT, p_isSeqL, p_isSeqI, p_isSeqB, p_isStrI, p_isStrB, Nat.reduceAdd, Nat.reduceSub, decide_true, decide_false, Bool.not_true, Bool.not_false, Bool.not_not, llb3, llb2, llb1, bodyOf, stm, fLLeftCounts, g, st]
    have e4 : denS C (llb3 tn) [some (.val (.tup (lp ps))), some (.own (hist m ks)), some (.val a.d), some (.val b.d), s4, none] = .ok .nx [some (.val (.tup (lp ps))), some (.own (hist m (ks ++ [Lc ps a b]))), some (.val a.d), some (.val b.d), some (.val (.int ((Lc ps a b : Nat) : Int))), none] := by
      show denS C (drp (llb3 tn) 0) _ = _
      refine Eq.trans (step rfl e2) ?_
      refine Eq.trans (step rfl e3) ?_
      rfl
    have e5 : llb2 tn = .cons (.ite (.cmp .ne (.var 2) (.var 3)) (llb3 tn) .nil) .nil := rfl
    rw [e5]
    refine s_last ?_
    show ((den C (.cmp .ne (.var 2) (.var 3)) _).bind fun x e => R.way x (denS C (llb3 tn) e) (denS C .nil e)) = _
    rw [e1]
    exact e4
theorem ll_st1 {m : Nat} {ks : List Nat} {a : Pt} {s3 s4 : Option Sl} (ht : TrnS C tn) (hp : Oks ps) (h2 : ps.length ≤ 40) (ha : a ∈ ps) (hm : m + 1 = ps.length) :
    ∃ s3' s4', denS C (llb1 tn) [some (.val (.tup (lp ps))), some (.own (hist m ks)), some (.val a.d), s3, s4, none] = .ok .nx [some (.val (.tup (lp ps))), some (.own (hist m (ks ++ lks ps ps a))), some (.val a.d), s3', s4', none] := by
  obtain ⟨e', k, t3, t4, rfl⟩ := for_all (t := .nm 3) (b := denS C (llb2 tn)) (ds := lp ps) (e := [some (.val (.tup (lp ps))), some (.own (hist m ks)), some (.val a.d), s3, s4, none]) (fun j e => ∃ s3 s4, e = [some (.val (.tup (lp ps))), some (.own (hist m (ks ++ (ps.take j).flatMap (kk ps a)))), some (.val a.d), s3, s4, none]) ⟨s3, s4, by rw [List.take_zero, List.flatMap_nil, List.append_nil]⟩ (fun j d e hd hI => by
    obtain ⟨p, hp', rfl⟩ := pts_get hd
    obtain ⟨s3, s4, rfl⟩ := hI
    obtain ⟨s4', q⟩ := ll_st2 (s4 := s4) (ks := ks ++ (ps.take j).flatMap (kk ps a)) ht hp h2 ha (List.mem_of_getElem? hp') hm
    refine ⟨_, _, rfl, q, some (.val p.d), s4', ?_⟩
    rw [fm_take hp', List.append_assoc])
  rw [List.length_map, List.take_length] at k
  refine ⟨t3, t4, ?_⟩
  rw [llb_a]
  refine s_last (s_for (ds := lp ps) ?_ k)
  simp (config := { maxDischargeDepth := 20 }) only [runFn, denS, den, denL, List.map, List.replicate, List.length_cons, List.length_nil, R.bind, R.of, R.way, D.tr, D.truth, getV, getO, ioOk, argsOf, afterCall, putIo, Option.isSome, Option.map, Option.bind, bindT, List.set, endOf, List.cons_append, List.nil_append, List.getElem?_cons_zero, List.getElem?_cons_succ, mul_L, add_L, sub_L, L.mul, L.sub, L.add, x_lst, x_tup, x_fz, c_lt, c_le, c_gt, c_ge, c_eq, c_ne, c_eqB, c_neB, c_isNI, c_isNB, p_int, p_abs, p_isInt, p_isIntB, p_isBool, p_isBoolB, p_isTup, p_isLst, p_isLstT, p_isSeqT, p_isSeqL, p_isSeqI, p_isSeqB, p_isStrI, p_isStrB, Nat.reduceAdd, Nat.reduceSub, decide_true, decide_false, Bool.not_true, Bool.not_false, Bool.not_not]
theorem run_lleft_counts {m : Nat} (ht : TrnS C tn) (hp : Oks ps) (h1 : 2 ≤ ps.length) (h2 : ps.length ≤ 40) (hm : m + 1 = ps.length) : runFn C (fLLeftCounts tn) [.val (.tup (lp ps))] = .ok (.lst (hist m (kss ps ps))) [] := by
  obtain ⟨e', k, s2, s3, s4, rfl⟩ := for_all (t := .nm 2) (b := denS C (llb1 tn)) (ds := lp ps) (e := [some (.val (.tup (lp ps))), some (.own (hist m [])), none, none, none, none]) (fun j e => ∃ s2 s3 s4, e = [some (.val (.tup (lp ps))), some (.own (hist m ((ps.take j).flatMap (lks ps ps)))), s2, s3, s4, none]) ⟨none, none, none, by rw [List.take_zero, List.flatMap_nil]⟩ (fun j d e hd hI => by
    obtain ⟨p, hp', rfl⟩ := pts_get hd
    obtain ⟨s2, s3, s4, rfl⟩ := hI
    obtain ⟨s3', s4', q⟩ := ll_st1 (ks := (ps.take j).flatMap (lks ps ps)) (s3 := s3) (s4 := s4) ht hp h2 (List.mem_of_getElem? hp') hm
    refine ⟨_, _, rfl, q, some (.val p.d), s3', s4', ?_⟩
    rw [fm_take hp'])
  rw [List.length_map, List.take_length] at k
  have q2 := len_ptsT (ps := ps) (by omega)
  have hn := hist_nil (z := (ps.length : Int) - 1) (m := m) (by omega) (by omega)
  have e : denS C (fLLeftCounts tn).body [some (.val (.tup (lp ps))), none, none, none, none, none] = .ok (.rt (.lst (hist m (kss ps ps)))) [some (.val (.tup (lp ps))), some (.val (.lst (hist m (kss ps ps)))), s2, s3, s4, none] := by
    show denS C (drp (fLLeftCounts tn).body 0) _ = _
    refine Eq.trans (step rfl (e' := [some (.val (.tup (lp ps))), some (.own (hist m [])), none, none, none, none]) ?_) ?_
    · simp (config := { maxDischargeDepth := 20 }) only [runFn, denS, den, denL, List.map, List.replicate, List.length_cons, List.length_nil, R.bind, R.of, R.way, D.tr, D.truth, getV, getO, ioOk, argsOf, afterCall, putIo, Option.isSome, Option.map, Option.bind, bindT, List.set, endOf, List.cons_append, List.nil_append, List.getElem?_cons_zero, List.getElem?_cons_succ, mul_L, add_L, sub_L, L.mul, L.sub, L.add, x_lst, x_tup, x_fz, c_lt, c_le, c_gt, c_ge, c_eq, c_ne, c_eqB, c_neB, c_isNI, c_isNB, p_int, p_abs, p_isInt, p_isIntB, p_isBool, p_isBoolB, p_isTup, p_isLst, p_isLstT, p_isSeqT, p_isSeqL, p_isSeqI, p_isSeqB, p_isStrI, p_isStrB, Nat.reduceAdd, Nat.reduceSub, decide_true, decide_false, Bool.not_true, Bool.not_false, Bool.not_not, stm, fLLeftCounts, q2, hn, lim1, ↓reduceIte]
    refine Eq.trans (step rfl (e' := [some (.val (.tup (lp ps))), some (.own (hist m (kss ps ps))), s2, s3, s4, none]) ?_) ?_
    · show denS C (.for_ (.nm 2) (.items (.var 0)) (llb1 tn)) _ = _
      refine s_for (ds := lp ps) ?_ k
      simp (config := { maxDischargeDepth := 20 }) only [runFn, denS, den, denL, List.map, List.replicate, List.length_cons, List.length_nil, R.bind, R.of, R.way, D.tr, D.truth, getV, getO, ioOk, argsOf, afterCall, putIo, Option.isSome, Option.map, Option.bind, bindT, List.set, endOf, List.cons_append, List.nil_append, List.getElem?_cons_zero, List.getElem?_cons_succ, mul_L, add_L, sub_L, L.mul, L.sub, L.add, x_lst, x_tup, x_fz, c_lt, c_le, c_gt, c_ge, c_eq, c_ne, c_eqB, c_neB, c_isNI, c_isNB, p_int, p_abs, p_isInt, p_isIntB, p_isBool, p_isBoolB, p_isTup, p_isLst, p_isLstT, p_isSeqT, p_isSeqL, p_isSeqI, p_isSeqB, p_isStrI, p_isStrB, Nat.reduceAdd, Nat.reduceSub, decide_true, decide_false, Bool.not_true, Bool.not_false, Bool.not_not]
    rfl
  exact (run_rt e).trans rfl
end
end Ev
set_option Elab.async false
set_option linter.all false
set_option maxRecDepth 100000
set_option maxHeartbeats 4000000
set_option autoImplicit false
/-! Pl13: halving pairs, as the program lists them. -/
namespace Ev
def hv (ps : List Pt) (i j : Nat) : Bool := (ps[i]?).any fun a => (ps[j]?).any fun b => decide (2 * Lc ps a b + 2 = ps.length)
def pd (i j : Nat) : D := .tup [.int (i : Int), .int (j : Int)]
def hvl (ps : List Pt) (i j : Nat) : List D := if hv ps i j = true then [pd i j] else []
def hrow (ps : List Pt) (i t : Nat) : List D := (List.range t).flatMap fun u => hvl ps i (i + 1 + u)
def due (ps : List Pt) (k : Nat) : List D := (List.range k).flatMap fun i => hrow ps i (ps.length - (i + 1))
theorem fm_le {β : Type} {f : Nat → List β} {c k : Nat} (h : ∀ x, x < k → (f x).length ≤ c) : ((List.range k).flatMap f).length ≤ k * c := by
  induction k with
  | zero => simp
  | succ k ih =>
    have h1 := ih fun x hx => h x (by omega)
    have h2 := h k (by omega)
    rw [List.range_succ, List.flatMap_append, List.length_append]
    have : (List.flatMap f [k]).length = (f k).length := by simp
    rw [this, Nat.succ_mul]
    omega
theorem hvl_le {ps : List Pt} {i j : Nat} : (hvl ps i j).length ≤ 1 := by
  unfold hvl
  split <;> simp
theorem hrow_le {ps : List Pt} {i t : Nat} : (hrow ps i t).length ≤ t := by
  have := fm_le (f := fun u => hvl ps i (i + 1 + u)) (c := 1) (k := t) fun x _ => hvl_le
  unfold hrow
  omega
theorem due_le {ps : List Pt} {k : Nat} : (due ps k).length ≤ k * ps.length := fm_le fun x _ => Nat.le_trans hrow_le (by omega)
theorem fm_succ {β : Type} {f : Nat → List β} {k : Nat} : (List.range (k + 1)).flatMap f = (List.range k).flatMap f ++ f k := by
  rw [List.range_succ, List.flatMap_append]
  simp
theorem hv_at {ps : List Pt} {i j : Nat} {a b : Pt} (hi : ps[i]? = some a) (hj : ps[j]? = some b) : hv ps i j = decide (2 * Lc ps a b + 2 = ps.length) := by
  unfold hv
  rw [hi, hj]
  rfl
theorem hv_int {n l : Nat} (h : 2 ≤ n) : decide ((2 : Int) * ((l : Nat) : Int) = (n : Int) - 2) = decide (2 * l + 2 = n) := by
  by_cases c : 2 * l + 2 = n
  · rw [decide_eq_true c]; exact decide_eq_true (by omega)
  · rw [decide_eq_false c]; exact decide_eq_false (by omega)
section
variable {C : Ctx} {tn lf ng : Nat} {ps : List Pt}
def hpb1 (lf : Nat) : Sm := bodyOf (stm (fHalving 0 lf).body 2)
def hpb2 (lf : Nat) : Sm := bodyOf (stm (hpb1 lf) 0)
theorem hpb_a (lf : Nat) : hpb1 lf = .cons (.for_ (.nm 4) (.rng2 (.bin .add (.var 3) (.lit (.int 1))) (.var 1)) (hpb2 lf)) .nil := rfl
theorem hp_st2 {ds : List D} {i j : Nat} (hlf : LfS C lf) (hp : Oks ps) (h1 : 2 ≤ ps.length) (h2 : ps.length ≤ 40) (hi : i < ps.length) (hj : j < ps.length) (hl : ds.length ≤ 10000) :
    denS C (hpb2 lf) [some (.val (.tup (lp ps))), some (.val (.int ps.length)), some (.own ds), some (.val (.int i)), some (.val (.int j))] = .ok .nx [some (.val (.tup (lp ps))), some (.val (.int ps.length)), some (.own (ds ++ hvl ps i j)), some (.val (.int i)), some (.val (.int j))] := by
  have hri : ps[i]? = some ps[i] := List.getElem?_eq_getElem hi
  have hrj : ps[j]? = some ps[j] := List.getElem?_eq_getElem hj
  have ai := at_pt hri
  have aj := at_pt hrj
  have e := hv_at hri hrj
  have mi := List.mem_of_getElem? hri
  have mj := List.mem_of_getElem? hrj
  unfold hvl
  rw [e]
  generalize ps[i] = a at *
  generalize ps[j] = b at *
  have q := hlf ps a b hp.gd (hp.gd a mi) (hp.gd b mj) h2
  have ll := lix_le (ps := ps) (a := a) (b := b)
  have ql := p_lix (ps := ps) (a := a) (b := b) (by omega)
  rw [lix_len] at ll
  have z := hv_int (n := ps.length) (l := Lc ps a b) h1
  have la : L 12 2 := S64.of (by decide) 12
  have lb : L 12 ((Lc ps a b : Nat) : Int) := S64.of (by omega) 12
  have lm : ds.length < lim := Nat.lt_of_le_of_lt hl (by decide)
  by_cases c : 2 * Lc ps a b + 2 = ps.length
  · have cc : decide (2 * Lc ps a b + 2 = ps.length) = true := decide_eq_true c
    rw [if_pos cc]
    rw [cc] at z
    have lm : (ds.length < lim) = True := eq_true lm
    simp (config := { maxDischargeDepth := 20 }) only [runFn, denS, den, denL, List.map, List.replicate, List.length_cons, List.length_nil, R.bind, R.of, R.way, D.tr, D.truth, getV, getO, ioOk, argsOf, afterCall, putIo, Option.isSome, Option.map, Option.bind, bindT, List.set, endOf, List.cons_append, List.nil_append, List.getElem?_cons_zero, List.getElem?_cons_succ, mul_L, add_L, sub_L, L.mul, L.sub, L.add, x_lst, x_tup, x_fz, c_lt, c_le, c_gt, c_ge, c_eq, c_ne, c_eqB, c_neB, c_isNI, c_isNB, p_int, p_abs, p_isInt, p_isIntB, p_isBool, p_isBoolB, p_isTup, p_isLst, p_isLstT, p_isSeqT, p_isSeqL, p_isSeqI, p_isSeqB, p_isStrI, p_isStrB, Nat.reduceAdd, Nat.reduceSub, decide_true, decide_false, Bool.not_true, Bool.not_false, Bool.not_not, hpb2, hpb1, bodyOf, stm, fHalving, ai, aj, q, ql, la, lb, z, lim2, lm, pd, ↓reduceIte]
  · have cc : decide (2 * Lc ps a b + 2 = ps.length) = false := decide_eq_false c
    rw [cc, if_neg (by decide), List.append_nil]
    rw [cc] at z
    simp (config := { maxDischargeDepth := 20 }) only [runFn, denS, den, denL, List.map, List.replicate, List.length_cons, List.length_nil, R.bind, R.of, R.way, D.tr, D.truth, getV, getO, ioOk, argsOf, afterCall, putIo, Option.isSome, Option.map, Option.bind, bindT, List.set, endOf, List.cons_append, List.nil_append, List.getElem?_cons_zero, List.getElem?_cons_succ, mul_L, add_L, sub_L, L.mul, L.sub, L.add, x_lst, x_tup, x_fz, c_lt, c_le, c_gt, c_ge, c_eq, c_ne, c_eqB, c_neB, c_isNI, c_isNB, p_int, p_abs, p_isInt, p_isIntB, p_isBool, p_isBoolB, p_isTup, p_isLst, p_isLstT, p_isSeqT, p_isSeqL, p_isSeqI, p_isSeqB, p_isStrI, p_isStrB, Nat.reduceAdd, Nat.reduceSub, decide_true, decide_false, Bool.not_true, Bool.not_false, Bool.not_not, hpb2, hpb1, bodyOf, stm, fHalving, ai, aj, q, ql, la, lb, z, ↓reduceIte]
theorem hp_st1 {ds : List D} {i : Nat} {s4 : Option Sl} (hlf : LfS C lf) (hp : Oks ps) (h1 : 2 ≤ ps.length) (h2 : ps.length ≤ 40) (hi : i < ps.length) (hl : ds.length ≤ 5000) :
    ∃ s4', denS C (hpb1 lf) [some (.val (.tup (lp ps))), some (.val (.int ps.length)), some (.own ds), some (.val (.int i)), s4] = .ok .nx [some (.val (.tup (lp ps))), some (.val (.int ps.length)), some (.own (ds ++ hrow ps i (ps.length - (i + 1)))), some (.val (.int i)), s4'] := by
  obtain ⟨e', k, s, rfl⟩ := for_all (t := .nm 4) (b := denS C (hpb2 lf)) (ds := range_ ((i : Int) + 1) (ps.length - ((i : Int) + 1).toNat)) (e := [some (.val (.tup (lp ps))), some (.val (.int ps.length)), some (.own ds), some (.val (.int i)), s4]) (fun j e => ∃ s, e = [some (.val (.tup (lp ps))), some (.val (.int ps.length)), some (.own (ds ++ hrow ps i j)), some (.val (.int i)), s]) ⟨s4, by unfold hrow; rw [List.range_zero, List.flatMap_nil, List.append_nil]⟩ (fun j d e hd hI => by
    obtain ⟨hj, rfl⟩ := rng_some hd
    obtain ⟨s, rfl⟩ := hI
    have ej : (i : Int) + 1 + (j : Int) = ((i + 1 + j : Nat) : Int) := by omega
    rw [ej]
    have hle := hrow_le (ps := ps) (i := i) (t := j)
    refine ⟨_, _, rfl, hp_st2 (i := i) (j := i + 1 + j) hlf hp h1 h2 hi (by omega) (by rw [List.length_append]; omega), some (.val (.int (i + 1 + j : Nat))), ?_⟩
    unfold hrow
    rw [fm_succ, List.append_assoc])
  rw [rng_len] at k
  have et : ((i : Int) + 1).toNat = i + 1 := by omega
  refine ⟨s, ?_⟩
  rw [hpb_a]
  rw [et] at k
  refine s_last (s_for (ds := range_ ((i : Int) + 1) (ps.length - (i + 1))) ?_ k)
  have := d_rng2 (C := C) (a := .bin .add (.var 3) (.lit (.int 1))) (b := .var 1) (n := (i : Int) + 1) (m := ps.length) (e := [some (.val (.tup (lp ps))), some (.val (.int ps.length)), some (.own ds), some (.val (.int i)), s4]) rfl rfl (by omega) (by omega) (by omega)
  rw [et] at this
  exact this
theorem run_halving (hng : C.call ng [.val (.tup (lp ps))] = .ok .non []) (hlf : LfS C lf) (hp : Oks ps) (h1 : 2 ≤ ps.length) (h2 : ps.length ≤ 40) : runFn C (fHalving ng lf) [.val (.tup (lp ps))] = .ok (.tup (due ps ps.length)) [] := by
  have q2 := len_ptsT (ps := ps) (by omega)
  obtain ⟨e', k, s3, s4, rfl⟩ := for_all (t := .nm 3) (b := denS C (hpb1 lf)) (ds := range_ 0 ps.length) (e := [some (.val (.tup (lp ps))), some (.val (.int ps.length)), some (.own []), none, none]) (fun j e => ∃ s3 s4, e = [some (.val (.tup (lp ps))), some (.val (.int ps.length)), some (.own (due ps j)), s3, s4]) ⟨none, none, by unfold due; rw [List.range_zero, List.flatMap_nil]⟩ (fun j d e hd hI => by
    obtain ⟨hj, rfl⟩ := rng_some hd
    obtain ⟨s3, s4, rfl⟩ := hI
    rw [at_int]
    have hle : (due ps j).length ≤ 40 * 40 := Nat.le_trans due_le (Nat.mul_le_mul (by omega) h2)
    obtain ⟨s4', q⟩ := hp_st1 (ds := due ps j) (i := j) (s4 := s4) hlf hp h1 h2 hj (by omega)
    refine ⟨_, _, rfl, q, some (.val (.int (j : Nat))), s4', ?_⟩
    unfold due
    rw [fm_succ])
  rw [rng_len] at k
  have e : denS C (fHalving ng lf).body [some (.val (.tup (lp ps))), none, none, none, none] = .ok (.rt (.tup (due ps ps.length))) [some (.val (.tup (lp ps))), some (.val (.int ps.length)), some (.val (.lst (due ps ps.length))), s3, s4] := by
    show denS C (drp (fHalving ng lf).body 0) _ = _
    refine Eq.trans (step rfl (e' := [some (.val (.tup (lp ps))), none, none, none, none]) ?_) ?_
    · simp (config := { maxDischargeDepth := 20 }) only [runFn, denS, den, denL, List.map, List.replicate, List.length_cons, List.length_nil, R.bind, R.of, R.way, D.tr, D.truth, getV, getO, ioOk, argsOf, afterCall, putIo, Option.isSome, Option.map, Option.bind, bindT, List.set, endOf, List.cons_append, List.nil_append, List.getElem?_cons_zero, List.getElem?_cons_succ, mul_L, add_L, sub_L, L.mul, L.sub, L.add, x_lst, x_tup, x_fz, c_lt, c_le, c_gt, c_ge, c_eq, c_ne, c_eqB, c_neB, c_isNI, c_isNB, p_int, p_abs, p_isInt, p_isIntB, p_isBool, p_isBoolB, p_isTup, p_isLst, p_isLstT, p_isSeqT, p_isSeqL, p_isSeqI, p_isSeqB, p_isStrI, p_isStrB, Nat.reduceAdd, Nat.reduceSub, decide_true, decide_false, Bool.not_true, Bool.not_false, Bool.not_not, stm, fHalving, hng]
    refine Eq.trans (step rfl (e' := [some (.val (.tup (lp ps))), some (.val (.int ps.length)), some (.own []), none, none]) ?_) ?_
    · simp (config := { maxDischargeDepth := 20 }) only [runFn, denS, den, denL, List.map, List.replicate, List.length_cons, List.length_nil, R.bind, R.of, R.way, D.tr, D.truth, getV, getO, ioOk, argsOf, afterCall, putIo, Option.isSome, Option.map, Option.bind, bindT, List.set, endOf, List.cons_append, List.nil_append, List.getElem?_cons_zero, List.getElem?_cons_succ, mul_L, add_L, sub_L, L.mul, L.sub, L.add, x_lst, x_tup, x_fz, c_lt, c_le, c_gt, c_ge, c_eq, c_ne, c_eqB, c_neB, c_isNI, c_isNB, p_int, p_abs, p_isInt, p_isIntB, p_isBool, p_isBoolB, p_isTup, p_isLst, p_isLstT, p_isSeqT, p_isSeqL, p_isSeqI, p_isSeqB, p_isStrI, p_isStrB, Nat.reduceAdd, Nat.reduceSub, decide_true, decide_false, Bool.not_true, Bool.not_false, Bool.not_not, stm, fHalving, q2, denRow, asL, slsOf, slOf, putRow, Nat.zero_le, ↓reduceIte]
    refine Eq.trans (step rfl (e' := [some (.val (.tup (lp ps))), some (.val (.int ps.length)), some (.own (due ps ps.length)), s3, s4]) ?_) ?_
    · show denS C (.for_ (.nm 3) (.rng1 (.var 1)) (hpb1 lf)) _ = _
      exact s_for (ds := range_ 0 ps.length) (d_rng rfl (by omega)) k
    rfl
  exact (run_rt e).trans rfl
end
end Ev
set_option Elab.async false
set_option linter.all false
set_option maxRecDepth 100000
set_option maxHeartbeats 4000000
set_option autoImplicit false
/-! Pl14: with an even number, each point is in an odd number of halving pairs. -/
namespace Ev
/-! ### a row sorted -/
theorem sort_ex {α : Type} [DecidableEq α] {R : α → α → Prop} [DecidableRel R] : ∀ (l : List α), (∀ a ∈ l, ∀ b ∈ l, ∀ c ∈ l, R a b → R b c → R a c) → (∀ a ∈ l, ∀ b ∈ l, a ≠ b → R a b ∨ R b a) → l.Nodup → ∃ l' : List α, l'.Perm l ∧ l'.Pairwise R
  | [], _, _, _ => ⟨[], List.Perm.refl _, List.Pairwise.nil⟩
  | a :: l, ht, hc, hn => by
    obtain ⟨n1, n2⟩ := List.nodup_cons.mp hn
    obtain ⟨s, hp, hs⟩ := sort_ex (R := R) l (fun x hx y hy z hz => ht x (List.mem_cons_of_mem _ hx) y (List.mem_cons_of_mem _ hy) z (List.mem_cons_of_mem _ hz)) (fun x hx y hy => hc x (List.mem_cons_of_mem _ hx) y (List.mem_cons_of_mem _ hy)) n2
    refine ⟨s.filter (fun x => decide (R x a)) ++ a :: s.filter (fun x => !decide (R x a)), ?_, ?_⟩
    · refine List.perm_middle.trans (List.Perm.cons a ?_)
      exact (List.filter_append_perm _ s).trans hp
    · rw [List.pairwise_append, List.pairwise_cons]
      have mem : ∀ x ∈ s, x ∈ a :: l := fun x hx => List.mem_cons_of_mem _ (hp.mem_iff.mp hx)
      have R1 : ∀ x ∈ s.filter (fun x => decide (R x a)), R x a ∧ x ∈ a :: l := fun x hx => ⟨of_decide_eq_true (List.mem_filter.mp hx).2, mem x (List.mem_filter.mp hx).1⟩
      have R2 : ∀ x ∈ s.filter (fun x => !decide (R x a)), R a x ∧ x ∈ a :: l := fun x hx => by
        obtain ⟨h1, h2⟩ := List.mem_filter.mp hx
        have h2 : ¬ R x a := by simpa using h2
        refine ⟨?_, mem x h1⟩
        rcases hc x (mem x h1) a List.mem_cons_self (fun e => n1 (by rw [← e]; exact hp.mem_iff.mp h1)) with h | h
        · exact absurd h h2
        · exact h
      refine ⟨hs.filter _, ⟨fun x hx => (R2 x hx).1, hs.filter _⟩, fun x hx y hy => ?_⟩
      obtain ⟨x1, x2⟩ := R1 x hx
      rcases List.mem_cons.mp hy with rfl | hy
      · exact x1
      · obtain ⟨y1, y2⟩ := R2 y hy
        exact ht x x2 a List.mem_cons_self y y2 x1 y1
/-! ### vectors of a half plane -/
theorem half_trans {x1 y1 x2 y2 x3 y3 : Int} (h1 : 0 < y1 ∨ (y1 = 0 ∧ 0 < x1)) (h2 : 0 < y2 ∨ (y2 = 0 ∧ 0 < x2)) (h3 : 0 < y3 ∨ (y3 = 0 ∧ 0 < x3)) (a : 0 < x1 * y2 - x2 * y1) (b : 0 < x2 * y3 - x3 * y2) : 0 < x1 * y3 - x3 * y1 := by
  rcases h2 with h2 | ⟨h2, k2⟩
  · have id : y2 * (x1 * y3 - x3 * y1) = y3 * (x1 * y2 - x2 * y1) + y1 * (x2 * y3 - x3 * y2) := by grind
    refine pos_of h2 ?_
    rw [id]
    rcases h1 with h1 | ⟨h1, k1⟩
    · have q1 : 0 < y1 * (x2 * y3 - x3 * y2) := Int.mul_pos h1 b
      have q2 : 0 ≤ y3 * (x1 * y2 - x2 * y1) := Int.mul_nonneg (by omega) (by omega)
      omega
    · rcases h3 with h3 | ⟨h3, k3⟩
      · have q1 : 0 ≤ y1 * (x2 * y3 - x3 * y2) := Int.mul_nonneg (by omega) (by omega)
        have q2 : 0 < y3 * (x1 * y2 - x2 * y1) := Int.mul_pos h3 a
        omega
      · rw [h3, Int.mul_zero] at b
        have := Int.mul_pos k3 h2
        omega
  · rw [h2, Int.mul_zero] at a
    have : 0 ≤ x2 * y1 := Int.mul_nonneg (by omega) (by omega)
    omega
/-! ### a walk from -E to E -/
def cz : Int → List Int → Nat
  | _, [] => 0
  | x, c :: cs => (if x + c = 0 then 1 else 0) + cz (x + 2 * c) cs
def ps01 (x : Int) : Nat := if 0 < x then 1 else 0
theorem cz_par : ∀ (cs : List Int) (x : Int), x % 2 = 1 → (∀ c ∈ cs, c = 1 ∨ c = -1) → (cz x cs + ps01 x + ps01 (x + 2 * cs.sum)) % 2 = 0
  | [], x, _, _ => by
    unfold cz
    have : x + 2 * [].sum = x := by simp
    rw [this]
    omega
  | c :: cs, x, hx, hc => by
    have h1 := hc c List.mem_cons_self
    have ih := cz_par cs (x + 2 * c) (by omega) fun y hy => hc y (List.mem_cons_of_mem _ hy)
    have e : x + 2 * (c :: cs).sum = x + 2 * c + 2 * cs.sum := by
      rw [List.sum_cons]
      omega
    rw [e]
    unfold cz
    generalize cz (x + 2 * c) cs = A at *
    generalize ps01 (x + 2 * c + 2 * cs.sum) = B at *
    have key : (ps01 (x + 2 * c) + ps01 x + if x + c = 0 then 1 else 0) % 2 = 0 := by
      unfold ps01
      rcases h1 with rfl | rfl
      · by_cases z : x + 1 = 0
        · rw [if_pos z, if_pos (by omega), if_neg (by omega)]
        · rw [if_neg z]
          by_cases p : 0 < x
          · rw [if_pos p, if_pos (by omega)]
          · rw [if_neg p, if_neg (by omega)]
      · by_cases z : x + -1 = 0
        · rw [if_pos z, if_neg (by omega), if_pos (by omega)]
        · rw [if_neg z]
          by_cases p : 0 < x
          · rw [if_pos p, if_pos (by omega)]
          · rw [if_neg p, if_neg (by omega)]
    omega
theorem sum_par : ∀ (cs : List Int), (∀ c ∈ cs, c = 1 ∨ c = -1) → (cs.sum - cs.length) % 2 = 0
  | [], _ => rfl
  | c :: cs, h => by
    have ih := sum_par cs fun y hy => h y (List.mem_cons_of_mem _ hy)
    have h1 := h c List.mem_cons_self
    rw [List.sum_cons, List.length_cons]
    omega
theorem cz_odd {cs : List Int} (h : ∀ c ∈ cs, c = 1 ∨ c = -1) (hl : cs.length % 2 = 1) : cz (-cs.sum) cs % 2 = 1 := by
  have p := sum_par cs h
  have q := cz_par cs (-cs.sum) (by omega) h
  have e : -cs.sum + 2 * cs.sum = cs.sum := by omega
  rw [e] at q
  have : ps01 (-cs.sum) + ps01 cs.sum = 1 := by
    unfold ps01
    by_cases z : 0 < cs.sum
    · rw [if_pos z, if_neg (by omega)]
    · rw [if_neg z, if_pos (by omega)]
  omega
theorem sg_same {e : Pt → Int} {f : Pt → Bool} {c : Int} (hc : c = 1 ∨ c = -1) : ∀ l : List Pt, (∀ r ∈ l, (e r = 1 ∨ e r = -1) ∧ f r = decide (e r = c)) → 2 * (l.countP f : Int) - l.length = c * (l.map e).sum
  | [], _ => by simp
  | r :: l, h => by
    have ih := sg_same hc l fun x hx => h x (List.mem_cons_of_mem _ hx)
    obtain ⟨h1, h2⟩ := h r List.mem_cons_self
    rw [List.countP_cons, List.map_cons, List.sum_cons, List.length_cons, Int.mul_add, ← ih, h2]
    rcases hc with rfl | rfl <;> rcases h1 with h1 | h1 <;> rw [h1] <;> simp <;> omega
theorem sg_diff {e : Pt → Int} {f : Pt → Bool} {c : Int} (hc : c = 1 ∨ c = -1) : ∀ l : List Pt, (∀ r ∈ l, (e r = 1 ∨ e r = -1) ∧ f r = decide (e r ≠ c)) → 2 * (l.countP f : Int) - l.length = -(c * (l.map e).sum)
  | [], _ => by simp
  | r :: l, h => by
    have ih := sg_diff hc l fun x hx => h x (List.mem_cons_of_mem _ hx)
    obtain ⟨h1, h2⟩ := h r List.mem_cons_self
    rw [List.countP_cons, List.map_cons, List.sum_cons, List.length_cons, Int.mul_add, Int.neg_add, ← ih, h2]
    rcases hc with rfl | rfl <;> rcases h1 with h1 | h1 <;> rw [h1] <;> simp <;> omega
/-- a sorted row: who has as many on the one side as on the other -/
theorem lov_walk {e : Pt → Int} {D : Pt → Pt → Bool} {l : List Pt} (he : ∀ r ∈ l, e r = 1 ∨ e r = -1) (h0 : ∀ q ∈ l, D q q = false) (hs : l.Pairwise fun q r => D q r = decide (e r = e q) ∧ D r q = decide (e q ≠ e r)) :
    ∀ (bs as : List Pt), l = as ++ bs → bs.countP (fun q => decide (2 * l.countP (D q) + 1 = l.length)) = cz (2 * (as.map e).sum - (l.map e).sum) (bs.map e)
  | [], as, _ => rfl
  | q :: bs, as, hl => by
    have ih := lov_walk he h0 hs bs (as ++ [q]) (by rw [hl, List.append_assoc]; rfl)
    rw [List.countP_cons, ih, List.map_cons, List.map_append, List.sum_append]
    have hq : q ∈ l := by rw [hl]; exact List.mem_append_right _ List.mem_cons_self
    have hb : ∀ r ∈ bs, r ∈ l := fun r hr => by rw [hl]; exact List.mem_append_right _ (List.mem_cons_of_mem _ hr)
    have ha : ∀ r ∈ as, r ∈ l := fun r hr => by rw [hl]; exact List.mem_append_left _ hr
    have hs' := hs
    rw [hl, List.pairwise_append, List.pairwise_cons] at hs'
    obtain ⟨_, ⟨hs1, _⟩, hs2⟩ := hs'
    have c1 := sg_same (e := e) (f := D q) (he q hq) bs fun r hr => ⟨he r (hb r hr), (hs1 r hr).1⟩
    have c2 := sg_diff (e := e) (f := D q) (he q hq) as fun r hr => ⟨he r (ha r hr), (hs2 r hr q List.mem_cons_self).2⟩
    have cl : l.countP (D q) = as.countP (D q) + bs.countP (D q) := by
      rw [hl, List.countP_append, List.countP_cons, h0 q hq]
      simp
    have ll : l.length = as.length + bs.length + 1 := by
      rw [hl, List.length_append, List.length_cons]
      omega
    have sl : (l.map e).sum = (as.map e).sum + (e q + (bs.map e).sum) := by
      rw [hl, List.map_append, List.sum_append, List.map_cons, List.sum_cons]
    have s1 : ([q].map e).sum = e q := by simp
    rw [s1, cz, cl, ll, sl]
    have hx : 2 * ((as.map e).sum + e q) - ((as.map e).sum + (e q + (bs.map e).sum)) = 2 * (as.map e).sum - ((as.map e).sum + (e q + (bs.map e).sum)) + 2 * e q := by omega
    rw [hx, Nat.add_comm]
    congr 1
    generalize (as.map e).sum = A at *
    generalize (bs.map e).sum = B at *
    have hd : decide (2 * (as.countP (D q) + bs.countP (D q)) + 1 = as.length + bs.length + 1) = decide (2 * A - (A + (e q + B)) + e q = 0) := by
      rcases he q hq with c | c
      · rw [c] at c1 c2 ⊢
        by_cases z : A = B
        · rw [decide_eq_true (by omega), decide_eq_true (by omega)]
        · rw [decide_eq_false (by omega), decide_eq_false (by omega)]
      · rw [c] at c1 c2 ⊢
        by_cases z : A = B
        · rw [decide_eq_true (by omega), decide_eq_true (by omega)]
        · rw [decide_eq_false (by omega), decide_eq_false (by omega)]
    rw [hd]
    simp
/-! ### around a point -/
section
variable {ps : List Pt} {p : Pt}
def vX (p q : Pt) : Int := q.x * p.w - p.x * q.w
def vY (p q : Pt) : Int := q.y * p.w - p.y * q.w
def eS (p q : Pt) : Int := if 0 < vY p q ∨ (vY p q = 0 ∧ 0 < vX p q) then 1 else -1
theorem eS_cases (p q : Pt) : eS p q = 1 ∨ eS p q = -1 := by
  unfold eS
  split
  · exact .inl rfl
  · exact .inr rfl
theorem v_dbl (p q r : Pt) : vX p q * vY p r - vX p r * vY p q = p.w * dbl p q r := ldbl_id p q r
theorem eS_half {q : Pt} (h : ¬ (vX p q = 0 ∧ vY p q = 0)) : 0 < eS p q * vY p q ∨ (eS p q * vY p q = 0 ∧ 0 < eS p q * vX p q) := by
  unfold eS
  split
  · rename_i c
    rw [Int.one_mul, Int.one_mul]
    exact c
  · rename_i c
    rcases Int.lt_trichotomy (vY p q) 0 with y | y | y
    · left; omega
    · right; refine ⟨by omega, ?_⟩
      omega
    · exact absurd (.inl y) c
def Ro (p q r : Pt) : Prop := 0 < eS p q * eS p r * dbl p q r
instance (p : Pt) : DecidableRel (Ro p) := fun q r => by unfold Ro; infer_instance
theorem Ro_iff {q r : Pt} (hw : 0 < p.w) : Ro p q r ↔ 0 < (eS p q * vX p q) * (eS p r * vY p r) - (eS p r * vX p r) * (eS p q * vY p q) := by
  have e : (eS p q * vX p q) * (eS p r * vY p r) - (eS p r * vX p r) * (eS p q * vY p q) = p.w * (eS p q * eS p r * dbl p q r) := by
    have := v_dbl p q r
    generalize eS p q = a
    generalize eS p r = b
    generalize vX p q = x1 at *
    generalize vX p r = x2 at *
    generalize vY p q = y1 at *
    generalize vY p r = y2 at *
    generalize dbl p q r = d at *
    generalize p.w = w at *
    grind
  unfold Ro
  rw [e]
  exact ⟨fun h => Int.mul_pos hw h, fun h => pos_of hw h⟩
theorem lovasz (hp : Oks ps) (hm : p ∈ ps) (hn : ps.length % 2 = 0) : (ps.countP fun q => decide (q ≠ p) && decide (2 * Lc ps p q + 2 = ps.length)) % 2 = 1 := by
  have gp := hp.gd p hm
  have hw : 0 < p.w := by have := gp.w0; omega
  -- the others
  have os : ∃ os, os = ps.filter fun q => decide (q ≠ p) := ⟨_, rfl⟩
  obtain ⟨os, hos⟩ := os
  have mo : ∀ q ∈ os, q ∈ ps ∧ q ≠ p := fun q hq => by
    rw [hos] at hq
    exact ⟨(List.mem_filter.mp hq).1, of_decide_eq_true (List.mem_filter.mp hq).2⟩
  have nd : os.Nodup := by rw [hos]; exact hp.gen.nd.filter _
  have lo : os.length + 1 = ps.length := by
    have c1 : ps.count p = 1 := by rw [hp.gen.nd.count, if_pos hm]
    have c2 : ∀ l : List Pt, (l.filter fun q => decide (q ≠ p)).length + l.count p = l.length := by
      intro l
      induction l with
      | nil => rfl
      | cons a l ih =>
        rw [List.count_cons, List.length_cons]
        by_cases z : a = p
        · rw [List.filter_cons_of_neg (by simpa using z)]
          simp [z]
          simp at ih
          omega
        · rw [List.filter_cons_of_pos (by simpa using z)]
          simp [z]
          simp at ih
          omega
    have := c2 ps
    rw [c1] at this
    rw [hos]
    exact this
  have nz : ∀ q ∈ os, ¬ (vX p q = 0 ∧ vY p q = 0) := fun q hq ⟨h1, h2⟩ => by
    obtain ⟨m1, m2⟩ := mo q hq
    have gq := hp.gd q m1
    unfold vX at h1
    unfold vY at h2
    exact m2 (pt_eq (by have := gq.w0; omega) hw gq.g gp.g (by omega) (by omega))
  have tr : ∀ a ∈ os, ∀ b ∈ os, ∀ c ∈ os, Ro p a b → Ro p b c → Ro p a c := fun a ha b hb c hc h1 h2 => by
    rw [Ro_iff hw] at h1 h2 ⊢
    exact half_trans (eS_half (nz a ha)) (eS_half (nz b hb)) (eS_half (nz c hc)) h1 h2
  have dn : ∀ a ∈ os, ∀ b ∈ os, a ≠ b → dbl p a b ≠ 0 := fun a ha b hb hab => hp.gen.g p hm a (mo a ha).1 b (mo b hb).1 (fun z => (mo a ha).2 z.symm) (fun z => (mo b hb).2 z.symm) hab
  have sw : ∀ a b : Pt, dbl p b a = - dbl p a b := fun a b => by unfold dbl; grind
  have tot : ∀ a ∈ os, ∀ b ∈ os, a ≠ b → Ro p a b ∨ Ro p b a := fun a ha b hb hab => by
    have d := dn a ha b hb hab
    have s := sw a b
    unfold Ro
    rw [s]
    rcases eS_cases p a with e1 | e1 <;> rcases eS_cases p b with e2 | e2 <;> rw [e1, e2] <;> omega
  obtain ⟨l, pl, sl⟩ := sort_ex (R := Ro p) os tr tot nd
  have ml : ∀ q ∈ l, q ∈ os := fun q hq => pl.mem_iff.mp hq
  have ll : l.length = os.length := pl.length_eq
  have e : ∀ r ∈ l, eS p r = 1 ∨ eS p r = -1 := fun r _ => eS_cases p r
  have w := lov_walk (e := eS p) (D := fun q r => decide (0 < dbl p q r)) (l := l) e (fun q _ => by rw [dbl_abb]; rfl) (sl.imp_of_mem fun {q r} hq hr h => by
    have s := sw q r
    unfold Ro at h
    rw [s]
    rcases eS_cases p q with e1 | e1 <;> rcases eS_cases p r with e2 | e2 <;> rw [e1, e2] at h ⊢
    · have : 0 < dbl p q r := by omega
      simp [this]
      omega
    · have : dbl p q r < 0 := by omega
      simp
      omega
    · have : dbl p q r < 0 := by omega
      simp
      omega
    · have : 0 < dbl p q r := by omega
      simp [this]
      omega) l [] rfl
  have o := cz_odd (cs := l.map (eS p)) (fun c hc => by
    obtain ⟨r, hr, rfl⟩ := List.mem_map.mp hc
    exact e r hr) (by rw [List.length_map]; omega)
  have z0 : 2 * (([] : List Pt).map (eS p)).sum - (l.map (eS p)).sum = -(l.map (eS p)).sum := by simp
  rw [z0] at w
  rw [← w] at o
  -- back to all points
  have lc : ∀ q ∈ os, Lc ps p q = l.countP fun r => decide (0 < dbl p q r) := fun q hq => by
    unfold Lc
    rw [← List.countP_eq_length_filter, pl.countP_eq, hos, List.countP_filter]
    refine List.countP_congr fun x hx => ?_
    simp only [Bool.and_eq_true, decide_eq_true_eq]
    refine ⟨fun h => ⟨h, fun z => ?_⟩, fun h => h.1⟩
    rw [z, dbl_aba] at h
    omega
  have fin : (ps.countP fun q => decide (q ≠ p) && decide (2 * Lc ps p q + 2 = ps.length)) = l.countP fun q => decide (2 * (l.countP fun r => decide (0 < dbl p q r)) + 1 = l.length) := by
    rw [pl.countP_eq]
    rw [show (ps.countP fun q => decide (q ≠ p) && decide (2 * Lc ps p q + 2 = ps.length)) = os.countP fun q => decide (2 * Lc ps p q + 2 = ps.length) by
      rw [hos, List.countP_filter]
      exact List.countP_congr fun x hx => by rw [Bool.and_comm]]
    refine List.countP_congr fun q hq => ?_
    rw [lc q hq]
    simp only [decide_eq_true_eq]
    omega
  rw [fin]
  exact o
end
end Ev
set_option Elab.async false
set_option linter.all false
set_option maxRecDepth 100000
set_option maxHeartbeats 4000000
set_option autoImplicit false
/-! Pl15: left counts, the same from both ends, and their sum; how often a point is in a halving pair. -/
namespace Ev
theorem part4 {a b : Pt} (hab : a ≠ b) : ∀ l : List Pt, (∀ x ∈ l, x ≠ a → x ≠ b → dbl a b x ≠ 0) → l.countP (fun p => decide (0 < dbl a b p)) + l.countP (fun p => decide (0 < dbl b a p)) + l.count a + l.count b = l.length
  | [], _ => rfl
  | x :: l, h => by
    have ih := part4 hab l fun y hy => h y (List.mem_cons_of_mem _ hy)
    rw [List.countP_cons, List.countP_cons, List.count_cons, List.count_cons, List.length_cons, dbl_swap a b x]
    by_cases xa : x = a
    · subst xa
      rw [dbl_aba]
      simp [hab]
      omega
    · by_cases xb : x = b
      · subst xb
        rw [dbl_abb]
        simp [xa]
        omega
      · have d := h x List.mem_cons_self xa xb
        have e1 : (x == a) = false := by simpa using xa
        have e2 : (x == b) = false := by simpa using xb
        rw [e1, e2]
        by_cases z : 0 < dbl a b x
        · rw [if_pos (decide_eq_true z), if_neg (by rw [decide_eq_false (by omega)]; decide)]
          simp
          omega
        · rw [if_neg (by rw [decide_eq_false z]; decide), if_pos (decide_eq_true (by omega))]
          simp
          omega
theorem Lc_sum {ps : List Pt} {a b : Pt} (hp : Gen ps) (ha : a ∈ ps) (hb : b ∈ ps) (hab : a ≠ b) : Lc ps a b + Lc ps b a + 2 = ps.length := by
  have q := part4 hab ps fun x hx h1 h2 => hp.g a ha b hb x hx hab (fun z => h1 z.symm) (fun z => h2 z.symm)
  rw [hp.nd.count, hp.nd.count, if_pos ha, if_pos hb] at q
  unfold Lc
  rw [← List.countP_eq_length_filter, ← List.countP_eq_length_filter]
  omega
/-! ### double sums -/
def dsum (f : Pt → Pt → Nat) (as bs : List Pt) : Nat := (as.map fun a => (bs.map (f a)).sum).sum
theorem sum_add {f g : Pt → Nat} : ∀ l : List Pt, (l.map fun b => f b + g b).sum = (l.map f).sum + (l.map g).sum
  | [] => rfl
  | b :: l => by
    rw [List.map_cons, List.sum_cons, List.map_cons, List.sum_cons, List.map_cons, List.sum_cons, sum_add l]
    omega
theorem dsum_swap {f : Pt → Pt → Nat} : ∀ as bs : List Pt, dsum f as bs = dsum (fun b a => f a b) bs as
  | [], bs => by
    unfold dsum
    rw [List.map_nil, List.sum_nil]
    induction bs with
    | nil => rfl
    | cons b bs ih =>
      rw [List.map_cons, List.sum_cons, ← ih, List.map_nil, List.sum_nil, Nat.add_zero]
  | a :: as, bs => by
    have ih := dsum_swap (f := f) as bs
    unfold dsum at *
    rw [List.map_cons, List.sum_cons, ih, ← sum_add]
    rfl
theorem sum_congr {α : Type} {f g : α → Nat} : ∀ {l : List α}, (∀ a ∈ l, f a = g a) → (l.map f).sum = (l.map g).sum := fun {l} h => by
  rw [List.map_congr_left h]
theorem dsum_congr {f g : Pt → Pt → Nat} {as bs : List Pt} (h : ∀ a ∈ as, ∀ b ∈ bs, f a b = g a b) : dsum f as bs = dsum g as bs :=
  sum_congr fun a ha => sum_congr fun b hb => h a ha b hb
theorem kss_count {ps : List Pt} {k : Nat} : (kss ps ps).count k = dsum (fun a b => (kk ps a b).count k) ps ps := by
  unfold kss dsum
  rw [List.count_flatMap]
  refine sum_congr fun a _ => ?_
  show (lks ps ps a).count k = _
  unfold lks
  rw [List.count_flatMap]
  rfl
theorem kss_sym {ps : List Pt} {k : Nat} (hp : Gen ps) (h : k + 2 ≤ ps.length) : (kss ps ps).count k = (kss ps ps).count (ps.length - 2 - k) := by
  rw [kss_count, kss_count, dsum_swap]
  refine dsum_congr fun a ha b hb => ?_
  show (kk ps b a).count k = (kk ps a b).count _
  unfold kk
  by_cases c : a = b
  · rw [if_pos c, if_pos c.symm]
    rfl
  · rw [if_neg c, if_neg (fun z => c z.symm)]
    have := Lc_sum hp ha hb c
    rw [List.count_cons, List.count_cons]
    by_cases z : Lc ps b a = k
    · have z2 : Lc ps a b = ps.length - 2 - k := by omega
      simp [z, z2]
    · have z2 : ¬ Lc ps a b = ps.length - 2 - k := by omega
      simp [z, z2]
theorem hist_rev {ps : List Pt} {m : Nat} (hp : Gen ps) (hm : m + 1 = ps.length) : (hist m (kss ps ps)).reverse = hist m (kss ps ps) := by
  apply List.ext_getElem?
  intro i
  by_cases hi : i < m
  · rw [List.getElem?_reverse (by rw [hist_len]; exact hi), hist_len]
    unfold hist
    rw [List.getElem?_map, List.getElem?_map, List.getElem?_range (by omega), List.getElem?_range hi]
    show some (D.int (((kss ps ps).count (m - 1 - i) : Nat) : Int)) = some (D.int (((kss ps ps).count i : Nat) : Int))
    rw [kss_sym (k := i) hp (by omega), show ps.length - 2 - i = m - 1 - i by omega]
  · rw [List.getElem?_eq_none (by rw [List.length_reverse, hist_len]; omega), List.getElem?_eq_none (by rw [hist_len]; omega)]
/-! ### the sum -/
theorem intsOf_map : ∀ ns : List Int, intsOf (ns.map D.int) = some ns
  | [] => rfl
  | n :: ns => by
    rw [List.map_cons]
    unfold intsOf
    rw [intsOf_map ns]
    rfl
def ss (F : Nat → Nat) : Nat → Nat
  | 0 => 0
  | t + 1 => ss F t + F t
theorem ss_rng {F : Nat → Nat} : ∀ t, ((List.range t).map F).sum = ss F t
  | 0 => rfl
  | t + 1 => by
    rw [List.range_succ, List.map_append, List.sum_append, ss_rng t]
    simp [ss]
theorem ss_congr {F G : Nat → Nat} : ∀ {t}, (∀ u, u < t → F u = G u) → ss F t = ss G t
  | 0, _ => rfl
  | t + 1, h => by
    unfold ss
    rw [ss_congr fun u hu => h u (by omega), h t (by omega)]
theorem ss_add {F G : Nat → Nat} : ∀ t, ss (fun u => F u + G u) t = ss F t + ss G t
  | 0 => rfl
  | t + 1 => by
    unfold ss
    rw [ss_add t]
    omega
theorem ss_zero {F : Nat → Nat} : ∀ {t}, (∀ u, u < t → F u = 0) → ss F t = 0
  | 0, _ => rfl
  | t + 1, h => by
    unfold ss
    rw [ss_zero fun u hu => h u (by omega), h t (by omega)]
theorem ss_one {F : Nat → Nat} {u0 : Nat} : ∀ {t}, u0 < t → (∀ u, u < t → u ≠ u0 → F u = 0) → ss F t = F u0
  | 0, h, _ => by omega
  | t + 1, h, k => by
    unfold ss
    by_cases z : u0 = t
    · subst z
      rw [ss_zero fun u hu => k u (by omega) (by omega)]
      omega
    · rw [ss_one (t := t) (by omega) fun u hu => k u (by omega), k t (by omega) (fun e => z e.symm)]
      omega
theorem ss_plus {F : Nat → Nat} {a : Nat} : ∀ b, ss F (a + b) = ss F a + ss (fun u => F (a + u)) b
  | 0 => rfl
  | b + 1 => by
    show ss F (a + b) + F (a + b) = ss F a + (ss (fun u => F (a + u)) b + F (a + b))
    rw [ss_plus b]
    omega
theorem count_sum {m : Nat} : ∀ {ks : List Nat}, (∀ k ∈ ks, k < m) → ss (fun i => ks.count i) m = ks.length
  | [], _ => ss_zero fun u _ => rfl
  | k :: ks, h => by
    have ih := count_sum (m := m) (ks := ks) fun x hx => h x (List.mem_cons_of_mem _ hx)
    have hk := h k List.mem_cons_self
    have e : ss (fun i => (k :: ks).count i) m = ss (fun i => ks.count i + if k = i then 1 else 0) m := ss_congr fun u _ => by
      show (k :: ks).count u = ks.count u + if k = u then 1 else 0
      rw [List.count_cons]
      by_cases z : k = u
      · simp [z]
      · simp [z]
    rw [e, ss_add, ih, ss_one (u0 := k) hk (fun u _ hu => if_neg (fun z => hu z.symm)), if_pos rfl, List.length_cons]
theorem lks_len {ps : List Pt} {a : Pt} : ∀ l : List Pt, (lks ps l a).length + l.count a = l.length
  | [] => rfl
  | b :: l => by
    have ih := lks_len (ps := ps) (a := a) l
    have e : lks ps (b :: l) a = kk ps a b ++ lks ps l a := by
      unfold lks
      rw [List.flatMap_cons]
    rw [e, List.length_append, List.count_cons, List.length_cons]
    unfold kk
    by_cases z : a = b
    · rw [if_pos z]
      subst z
      simp
      omega
    · rw [if_neg z]
      have z' : (b == a) = false := by simpa using fun h : b = a => z h.symm
      rw [z']
      simp
      omega
theorem sum_const {f : Pt → Nat} {c : Nat} : ∀ {l : List Pt}, (∀ a ∈ l, f a = c) → (l.map f).sum = l.length * c
  | [], _ => by simp
  | a :: l, h => by
    rw [List.map_cons, List.sum_cons, sum_const fun x hx => h x (List.mem_cons_of_mem _ hx), h a List.mem_cons_self, List.length_cons, Nat.succ_mul]
    omega
theorem kss_len {ps : List Pt} {m : Nat} (hp : Gen ps) (hm : m + 1 = ps.length) : (kss ps ps).length = ps.length * m := by
  unfold kss
  rw [List.length_flatMap]
  refine sum_const fun a ha => ?_
  have := lks_len (ps := ps) (a := a) ps
  rw [hp.nd.count, if_pos ha] at this
  omega
theorem kss_lt {ps : List Pt} {m : Nat} (hp : Gen ps) (hm : m + 1 = ps.length) : ∀ k ∈ kss ps ps, k < m := fun k hk => by
  unfold kss at hk
  obtain ⟨a, ha, hk⟩ := List.mem_flatMap.mp hk
  unfold lks at hk
  obtain ⟨b, hb, hk⟩ := List.mem_flatMap.mp hk
  unfold kk at hk
  split at hk
  · cases hk
  · rename_i c
    rw [List.mem_singleton.mp hk]
    have := Lc_lt hp.nd ha hb c
    omega
theorem hist_sum {ps : List Pt} {m : Nat} (hp : Gen ps) (hm : m + 1 = ps.length) : prim .sum [.tup (hist m (kss ps ps))] = some (.int ((ps.length : Int) * ((ps.length : Int) - 1))) := by
  have e : hist m (kss ps ps) = ((List.range m).map fun i => (((kss ps ps).count i : Nat) : Int)).map D.int := by
    unfold hist
    rw [List.map_map]
    rfl
  show (intsOf (hist m (kss ps ps))).map (fun is => D.int is.sum) = _
  rw [e, intsOf_map]
  have cast : ∀ l : List Nat, (l.map fun i => (((kss ps ps).count i : Nat) : Int)).sum = (((l.map fun i => (kss ps ps).count i).sum : Nat) : Int) := by
    intro l
    induction l with
    | nil => rfl
    | cons a l ih => rw [List.map_cons, List.sum_cons, List.map_cons, List.sum_cons, ih]; omega
  show some (D.int ((List.range m).map fun i => (((kss ps ps).count i : Nat) : Int)).sum) = _
  rw [cast, ss_rng, count_sum (kss_lt hp hm), kss_len hp hm]
  have : ((ps.length * m : Nat) : Int) = (ps.length : Int) * ((ps.length : Int) - 1) := by
    rw [Int.natCast_mul]
    congr 1
    omega
  rw [this]
/-! ### halving pairs -/
theorem hv_odd {ps : List Pt} {i j : Nat} (h : ps.length % 2 = 1) : hv ps i j = false := by
  cases e : hv ps i j with
  | false => rfl
  | true =>
    unfold hv at e
    cases hi : ps[i]? with
    | none => rw [hi] at e; cases e
    | some a =>
      rw [hi] at e
      cases hj : ps[j]? with
      | none => rw [hj] at e; cases e
      | some b =>
        rw [hj] at e
        have := of_decide_eq_true e
        omega
theorem due_odd {ps : List Pt} {k : Nat} (h : ps.length % 2 = 1) : due ps k = [] := by
  unfold due
  refine List.flatMap_eq_nil_iff.mpr fun i _ => ?_
  unfold hrow
  refine List.flatMap_eq_nil_iff.mpr fun u _ => ?_
  unfold hvl
  rw [hv_odd h, if_neg (by decide)]
theorem hv_sym {ps : List Pt} {i j : Nat} (hp : Gen ps) (hi : i < ps.length) (hj : j < ps.length) (hij : i ≠ j) : hv ps i j = hv ps j i := by
  have hri : ps[i]? = some ps[i] := List.getElem?_eq_getElem hi
  have hrj : ps[j]? = some ps[j] := List.getElem?_eq_getElem hj
  rw [hv_at hri hrj, hv_at hrj hri]
  have ne : ps[i] ≠ ps[j] := by
    rcases Nat.lt_or_gt_of_ne hij with z | z
    · exact nd_ne hp.nd z hri hrj
    · exact (nd_ne hp.nd z hrj hri).symm
  have := Lc_sum hp (List.getElem_mem hi) (List.getElem_mem hj) ne
  by_cases c : 2 * Lc ps ps[i] ps[j] + 2 = ps.length
  · rw [decide_eq_true c, decide_eq_true (by omega)]
  · rw [decide_eq_false c, decide_eq_false (by omega)]
def inP (k : Nat) : D → Bool
  | .tup ys => memOf (.int (k : Int)) ys
  | _ => false
theorem inP_pd {k i j : Nat} : inP k (pd i j) = (decide (i = k) || decide (j = k)) := by
  show (D.eqv (.int (i : Int)) (.int (k : Int)) || (D.eqv (.int (j : Int)) (.int (k : Int)) || false)) = _
  have e : ∀ x y : Nat, D.eqv (.int (x : Int)) (.int (y : Int)) = decide (x = y) := fun x y => by
    show decide ((x : Int) = (y : Int)) = _
    by_cases z : x = y
    · rw [decide_eq_true z, decide_eq_true (by omega)]
    · rw [decide_eq_false z, decide_eq_false (by omega)]
  rw [e, e, Bool.or_false]
def b1 (b : Bool) : Nat := if b = true then 1 else 0
theorem cnt_hvl {ps : List Pt} {k i j : Nat} : (hvl ps i j).countP (inP k) = b1 (hv ps i j && (decide (i = k) || decide (j = k))) := by
  unfold hvl b1
  cases hv ps i j with
  | false => simp
  | true =>
    rw [if_pos rfl, List.countP_cons, inP_pd]
    simp
theorem cnt_due {ps : List Pt} {k : Nat} : (due ps ps.length).countP (inP k) = ss (fun i => ss (fun u => b1 (hv ps i (i + 1 + u) && (decide (i = k) || decide (i + 1 + u = k)))) (ps.length - (i + 1))) ps.length := by
  unfold due
  rw [List.countP_flatMap, ss_rng]
  refine ss_congr fun i _ => ?_
  show (hrow ps i _).countP (inP k) = _
  unfold hrow
  rw [List.countP_flatMap, ss_rng]
  exact ss_congr fun u _ => cnt_hvl
theorem idx_count {ps : List Pt} {f : Pt → Bool} : ∀ t, t ≤ ps.length → ss (fun j => b1 ((ps[j]?).any f)) t = (ps.take t).countP f
  | 0, _ => by rw [List.take_zero]; rfl
  | t + 1, h => by
    have hr : ps[t]? = some ps[t] := List.getElem?_eq_getElem (by omega)
    unfold ss
    rw [idx_count t (by omega), List.take_add_one, List.countP_append, hr]
    congr 1
    show b1 (f _) = List.countP f [_]
    rw [List.countP_cons]
    unfold b1
    simp
theorem due_at {ps : List Pt} {k : Nat} (hp : Oks ps) (hk : k < ps.length) (hn : ps.length % 2 = 0) : (due ps ps.length).countP (inP k) % 2 = 1 := by
  have hr : ps[k]? = some ps[k] := List.getElem?_eq_getElem hk
  have lv := lovasz hp (List.getElem_mem hk) hn
  have ic := idx_count (ps := ps) (f := fun q => decide (q ≠ ps[k]) && decide (2 * Lc ps ps[k] q + 2 = ps.length)) ps.length (Nat.le_refl _)
  rw [List.take_length] at ic
  rw [← ic] at lv
  have e1 : ss (fun j => b1 ((ps[j]?).any fun q => decide (q ≠ ps[k]) && decide (2 * Lc ps ps[k] q + 2 = ps.length))) ps.length = ss (fun j => b1 (decide (j ≠ k) && hv ps k j)) ps.length := ss_congr fun j hj => by
    have hrj : ps[j]? = some ps[j] := List.getElem?_eq_getElem hj
    show b1 ((ps[j]?).any _) = b1 _
    rw [hv_at hr hrj, hrj]
    show b1 (decide (ps[j] ≠ ps[k]) && _) = _
    have : decide (ps[j] ≠ ps[k]) = decide (j ≠ k) := by
      by_cases z : j = k
      · subst z; simp
      · rw [decide_eq_true z]
        refine decide_eq_true ?_
        rcases Nat.lt_or_gt_of_ne z with y | y
        · exact nd_ne hp.gen.nd y hrj hr
        · exact (nd_ne hp.gen.nd y hr hrj).symm
    rw [this]
  rw [e1] at lv
  rw [cnt_due]
  obtain ⟨r, hr⟩ : ∃ r, ps.length = k + 1 + r := ⟨ps.length - (k + 1), by omega⟩
  have a1 : ∀ F : Nat → Nat, ss F ps.length = ss F k + F k + ss (fun u => F (k + 1 + u)) r := fun F => by
    rw [hr, ss_plus]
    rfl
  rw [a1] at lv
  rw [a1]
  have f1 : ss (fun i => ss (fun u => b1 (hv ps i (i + 1 + u) && (decide (i = k) || decide (i + 1 + u = k)))) (ps.length - (i + 1))) k = ss (fun j => b1 (decide (j ≠ k) && hv ps k j)) k := ss_congr fun i hi => by
    show ss (fun u => b1 (hv ps i (i + 1 + u) && (decide (i = k) || decide (i + 1 + u = k)))) (ps.length - (i + 1)) = _
    rw [ss_one (u0 := k - (i + 1)) (by omega) (fun u _ hu => by
      rw [decide_eq_false (show ¬ i = k by omega), decide_eq_false (show ¬ i + 1 + u = k by omega)]
      simp [b1])]
    have e : i + 1 + (k - (i + 1)) = k := by omega
    rw [e, hv_sym hp.gen (by omega) hk (by omega), decide_eq_true (show i ≠ k by omega)]
    simp
  have f2 : ss (fun u => b1 (hv ps k (k + 1 + u) && (decide (k = k) || decide (k + 1 + u = k)))) (ps.length - (k + 1)) = ss (fun u => b1 (decide (k + 1 + u ≠ k) && hv ps k (k + 1 + u))) r := by
    rw [show ps.length - (k + 1) = r by omega]
    refine ss_congr fun u _ => ?_
    rw [decide_eq_true (show k + 1 + u ≠ k by omega)]
    simp
  have f3 : ss (fun v => ss (fun u => b1 (hv ps (k + 1 + v) (k + 1 + v + 1 + u) && (decide (k + 1 + v = k) || decide (k + 1 + v + 1 + u = k)))) (ps.length - (k + 1 + v + 1))) r = 0 := ss_zero fun v _ => ss_zero fun u _ => by
    rw [decide_eq_false (show ¬ k + 1 + v = k by omega), decide_eq_false (show ¬ k + 1 + v + 1 + u = k by omega)]
    simp [b1]
  have f4 : b1 (decide (k ≠ k) && hv ps k k) = 0 := by simp [b1]
  have lv : (ss (fun j => b1 (decide (j ≠ k) && hv ps k j)) k + b1 (decide (k ≠ k) && hv ps k k) + ss (fun u => b1 (decide (k + 1 + u ≠ k) && hv ps k (k + 1 + u))) r) % 2 = 1 := lv
  show (ss (fun i => ss (fun u => b1 (hv ps i (i + 1 + u) && (decide (i = k) || decide (i + 1 + u = k)))) (ps.length - (i + 1))) k + ss (fun u => b1 (hv ps k (k + 1 + u) && (decide (k = k) || decide (k + 1 + u = k)))) (ps.length - (k + 1)) + ss (fun v => ss (fun u => b1 (hv ps (k + 1 + v) (k + 1 + v + 1 + u) && (decide (k + 1 + v = k) || decide (k + 1 + v + 1 + u = k)))) (ps.length - (k + 1 + v + 1))) r) % 2 = 1
  rw [f1, f2, f3]
  rw [f4] at lv
  omega
end Ev
set_option Elab.async false
set_option linter.all false
set_option maxRecDepth 100000
set_option maxHeartbeats 4000000
set_option autoImplicit false
/-! Pl16: small things about values: rows of ints, pairs, likeness, comparing with empty lists. -/
namespace Ev
theorem pls_all {n : Nat} : ∀ {ds : List D}, (∀ d ∈ ds, D.pl n d = true) → D.pls (n + 1) ds = true
  | [], _ => by simp [D.pls]
  | d :: ds, h => by
    unfold D.pls
    rw [h d List.mem_cons_self, pls_all fun x hx => h x (List.mem_cons_of_mem _ hx)]
    rfl
theorem pl_tupI {n : Nat} {ds : List D} (hl : ds.length < 1000) (h : ∀ d ∈ ds, D.pl n d = true) : D.pl (n + 1) (.tup ds) = true := by
  unfold D.pl
  rw [decide_eq_true hl, pls_all h]
  rfl
theorem pl_int {n : Nat} {i : Int} : D.pl n (.int i) = true := by cases n <;> simp [D.pl]
theorem pl_pt {n : Nat} {p : Pt} : D.pl (n + 1) p.d = true := pl_tupI (by simp) fun d hd => by
  rcases List.mem_cons.mp hd with rfl | hd
  · exact pl_int
  · rcases List.mem_cons.mp hd with rfl | hd
    · exact pl_int
    · rw [List.mem_singleton.mp hd]; exact pl_int
theorem pl_pd {n i j : Nat} : D.pl (n + 1) (pd i j) = true := pl_tupI (by simp) fun d hd => by
  rcases List.mem_cons.mp hd with rfl | hd
  · exact pl_int
  · rw [List.mem_singleton.mp hd]; exact pl_int
theorem pl_hist {n m : Nat} {ks : List Nat} (h : m < 1000) : D.pl (n + 1) (.tup (hist m ks)) = true := pl_tupI (by rw [hist_len]; exact h) fun d hd => by
  unfold hist at hd
  obtain ⟨i, _, rfl⟩ := List.mem_map.mp hd
  exact pl_int
theorem due_mem {ps : List Pt} {k : Nat} : ∀ d ∈ due ps k, ∃ i j, d = pd i j := fun d hd => by
  unfold due at hd
  obtain ⟨i, _, hd⟩ := List.mem_flatMap.mp hd
  unfold hrow at hd
  obtain ⟨u, _, hd⟩ := List.mem_flatMap.mp hd
  unfold hvl at hd
  split at hd
  · exact ⟨i, i + 1 + u, List.mem_singleton.mp hd⟩
  · cases hd
theorem pl_due {ps : List Pt} {k n : Nat} (h : (due ps k).length < 1000) : D.pl (n + 2) (.tup (due ps k)) = true := pl_tupI h fun d hd => by
  obtain ⟨i, j, rfl⟩ := due_mem d hd
  exact pl_pd
/-! ### equality of a row of ints with itself -/
theorem shs_ints {ns : List Int} : ∀ {k : Nat}, D.shs (k + 1) (ns.map D.int) = true := fun {k} => by
  induction ns with
  | nil => simp [D.shs]
  | cons n ns ih =>
    rw [List.map_cons]
    unfold D.shs
    rw [ih]
    cases k <;> simp [D.sh]
theorem eqvs_ints : ∀ ns : List Int, D.eqvs (ns.map D.int) (ns.map D.int) = true
  | [] => by simp [D.eqvs]
  | n :: ns => by
    rw [List.map_cons]
    unfold D.eqvs
    rw [eqvs_ints ns]
    simp [D.eqv]
theorem c_neT {ns : List Int} : cmpop .ne (.tup (ns.map D.int)) (.tup (ns.map D.int)) = some false := by
  show (if (D.sh 60 (.tup (ns.map D.int)) && D.sh 60 (.tup (ns.map D.int))) = true then some (!D.eqv (.tup (ns.map D.int)) (.tup (ns.map D.int))) else none) = _
  have e1 : D.sh 60 (.tup (ns.map D.int)) = true := by
    unfold D.sh
    exact shs_ints
  have e2 : D.eqv (.tup (ns.map D.int)) (.tup (ns.map D.int)) = true := by
    unfold D.eqv
    exact eqvs_ints ns
  rw [e1, e2]
  rfl
theorem hist_ints {m : Nat} {ks : List Nat} : hist m ks = ((List.range m).map fun i => ((ks.count i : Nat) : Int)).map D.int := by
  unfold hist
  rw [List.map_map]
  rfl
theorem c_memPd {k i j : Nat} : cmpop .mem (.int (k : Int)) (pd i j) = some (inP k (pd i j)) := by
  show (if (D.sh 60 (.int (k : Int)) && D.sh 60 (.tup [.int (i : Int), .int (j : Int)])) = true then some (memOf (.int (k : Int)) [.int (i : Int), .int (j : Int)]) else none) = _
  have e1 : (D.sh 60 (.int (k : Int)) && D.sh 60 (.tup [.int (i : Int), .int (j : Int)])) = true := by simp [D.sh, D.shs]
  rw [if_pos e1]
  rfl
theorem mod2 {n : Nat} : binop .mod (.int (n : Int)) (.int 2) = some (.int ((n % 2 : Nat) : Int)) := by
  rw [fmod_L (by decide), Int.fmod_eq_emod_of_nonneg _ (by decide)]
  rfl
end Ev
set_option Elab.async false
set_option linter.all false
set_option maxRecDepth 100000
set_option maxHeartbeats 4000000
set_option autoImplicit false
/-! Pl17: the order of points, between, the point of two lines. -/
namespace Ev
/-! ### order -/
def lex (x y : Int) : Int := if sgn x = 0 then sgn y else sgn x
def ord (a b : Pt) : Int := if sgn (a.x * b.w - b.x * a.w) = 0 then sgn (a.y * b.w - b.y * a.w) else sgn (a.x * b.w - b.x * a.w)
def dx (a b : Pt) : Int := a.x * b.w - b.x * a.w
def dy (a b : Pt) : Int := a.y * b.w - b.y * a.w
theorem ord_lex (a b : Pt) : ord a b = lex (dx a b) (dy a b) := rfl
theorem ord_cases (a b : Pt) : (ord a b = 1 ∧ (0 < dx a b ∨ dx a b = 0 ∧ 0 < dy a b)) ∨ (ord a b = 0 ∧ dx a b = 0 ∧ dy a b = 0) ∨ (ord a b = -1 ∧ (dx a b < 0 ∨ dx a b = 0 ∧ dy a b < 0)) := by
  unfold ord
  show ((if sgn (dx a b) = 0 then sgn (dy a b) else sgn (dx a b)) = 1 ∧ _) ∨ ((if sgn (dx a b) = 0 then sgn (dy a b) else sgn (dx a b)) = 0 ∧ _) ∨ ((if sgn (dx a b) = 0 then sgn (dy a b) else sgn (dx a b)) = -1 ∧ _)
  rcases sgn_cases (dx a b) with ⟨h, h'⟩ | ⟨h, h'⟩ | ⟨h, h'⟩
  · rw [if_neg (by omega)]; omega
  · rw [if_pos h]
    rcases sgn_cases (dy a b) with ⟨k, k'⟩ | ⟨k, k'⟩ | ⟨k, k'⟩ <;> omega
  · rw [if_neg (by omega)]; omega
theorem dx_neg (a b : Pt) : dx b a = - dx a b := by unfold dx; omega
theorem dy_neg (a b : Pt) : dy b a = - dy a b := by unfold dy; omega
theorem ord_neg (a b : Pt) : ord b a = - ord a b := by
  have h1 := ord_cases a b
  have h2 := ord_cases b a
  have h3 := dx_neg a b
  have h4 := dy_neg a b
  omega
theorem ord_trans {a b c : Pt} (ha : 0 < a.w) (hb : 0 < b.w) (hc : 0 < c.w) (h1 : 0 ≤ ord a c) (h2 : 0 ≤ ord c b) (h3 : ord a c = 1 ∨ ord c b = 1) : ord a b = 1 := by
  have e1 : dx a b * c.w = dx a c * b.w + dx c b * a.w := by unfold dx; grind
  have e2 : dy a b * c.w = dy a c * b.w + dy c b * a.w := by unfold dy; grind
  have k1 := ord_cases a c
  have k2 := ord_cases c b
  have k3 := ord_cases a b
  have p1 : 0 ≤ dx a c := by omega
  have p2 : 0 ≤ dx c b := by omega
  have q1 : 0 ≤ dx a c * b.w := Int.mul_nonneg p1 (by omega)
  have q2 : 0 ≤ dx c b * a.w := Int.mul_nonneg p2 (by omega)
  have pos : ∀ {i j : Int}, 0 < j → 0 < i * j → 0 < i := fun {i j} h k => pos_of h (by rw [Int.mul_comm]; exact k)
  by_cases z1 : dx a c = 0
  · by_cases z2 : dx c b = 0
    · have e3 : dx a b = 0 := by
        rw [z1, z2, Int.zero_mul, Int.zero_mul] at e1
        rcases Int.mul_eq_zero.mp e1 with z | z <;> omega
      have p3 : 0 ≤ dy a c := by omega
      have p4 : 0 ≤ dy c b := by omega
      have q3 : 0 ≤ dy a c * b.w := Int.mul_nonneg p3 (by omega)
      have q4 : 0 ≤ dy c b * a.w := Int.mul_nonneg p4 (by omega)
      have q5 : 0 < dy a c * b.w ∨ 0 < dy c b * a.w := by
        rcases h3 with h3 | h3
        · exact .inl (Int.mul_pos (by omega) hb)
        · exact .inr (Int.mul_pos (by omega) ha)
      have : 0 < dy a b := pos hc (by omega)
      omega
    · have : 0 < dx c b * a.w := Int.mul_pos (by omega) ha
      have : 0 < dx a b := pos hc (by omega)
      omega
  · have : 0 < dx a c * b.w := Int.mul_pos (by omega) hb
    have : 0 < dx a b := pos hc (by omega)
    omega
/-- a point in lowest terms -/
structure Ca (p : Pt) : Prop where
  w : 0 < p.w
  g : gcdI (gcdI p.x p.y) p.w = 1
theorem Pn.ca {A B : Nat} {p : Pt} (h : Pn A B p) : Ca p := ⟨h.pw, h.g⟩
theorem ord_zero {a b : Pt} (ha : Ca a) (hb : Ca b) (h : ord a b = 0) : a = b := by
  have k := ord_cases a b
  refine pt_eq ha.w hb.w ha.g hb.g ?_ ?_
  · have : dx a b = 0 := by omega
    unfold dx at this
    omega
  · have : dy a b = 0 := by omega
    unfold dy at this
    omega
theorem ord_self (a : Pt) : ord a a = 0 := by
  have k := ord_cases a a
  have e1 : dx a a = 0 := by unfold dx; omega
  have e2 : dy a a = 0 := by unfold dy; omega
  omega
theorem ord_S {a b : Pt} : S64 (ord a b) := by
  unfold ord
  split <;> exact sgn_S
def betw (a b p : Pt) : Bool := if ord a b = 0 then decide (ord a p = 0) else (decide (sgn (dbl a b p) = 0) && decide (0 ≤ ord a p * ord p b))
def lbetw (a b p : Pt) : Bool := if sgn (dbl a b p) ≠ 0 ∨ a = b then decide (p = a) else
  (if ord a b < 0 then (decide (ord a p ≤ 0) && decide (ord p b ≤ 0)) else (decide (ord b p ≤ 0) && decide (ord p a ≤ 0)))
theorem betw_eq {a b c : Pt} (ha : Ca a) (hb : Ca b) (hc : Ca c) : betw a b c = lbetw a b c := by
  have pa := ha.w
  have pb := hb.w
  have pc := hc.w
  unfold betw lbetw
  by_cases h1 : sgn (dbl a b c) = 0
  · by_cases h2 : a = b
    · subst h2
      rw [if_pos (ord_self a), if_pos (.inr rfl)]
      refine decide_eq_decide.mpr ⟨fun h => (ord_zero ha hc h).symm, fun h => by rw [h]; exact ord_self a⟩
    · have h3 : ord a b ≠ 0 := fun h => h2 (ord_zero ha hb h)
      rw [if_neg h3, if_neg (by rintro (h | h); exact h h1; exact h2 h), decide_eq_true h1, Bool.true_and]
      have k1 := ord_cases a c
      have k2 := ord_cases c b
      have k3 := ord_cases a b
      have t1 := ord_trans pa pb pc (a := a) (b := b) (c := c)
      have t2 := ord_trans pb pa pc (a := b) (b := a) (c := c)
      have n1 := ord_neg a b
      have n2 := ord_neg a c
      have n3 := ord_neg c b
      rw [n2, n3] at t2 ⊢
      clear n2 n3
      generalize ord a c = u at *
      generalize ord c b = v at *
      by_cases h4 : ord a b < 0
      · rw [if_pos h4, ← Bool.decide_and]
        refine decide_eq_decide.mpr ?_
        rcases k1 with ⟨rfl, _⟩ | ⟨rfl, _⟩ | ⟨rfl, _⟩ <;> rcases k2 with ⟨rfl, _⟩ | ⟨rfl, _⟩ | ⟨rfl, _⟩ <;> omega
      · rw [if_neg h4, ← Bool.decide_and]
        refine decide_eq_decide.mpr ?_
        rcases k1 with ⟨rfl, _⟩ | ⟨rfl, _⟩ | ⟨rfl, _⟩ <;> rcases k2 with ⟨rfl, _⟩ | ⟨rfl, _⟩ | ⟨rfl, _⟩ <;> omega
  · have h2 : ord a b ≠ 0 := fun h => by
      rw [ord_zero ha hb h, dbl_aac] at h1
      exact h1 rfl
    have h3 : c ≠ a := fun h => by
      rw [h, dbl_aba] at h1
      exact h1 rfl
    rw [if_neg h2, if_pos (Or.inl h1), decide_eq_false h1, decide_eq_false h3, Bool.false_and]
/-! ### two lines -/
def lU (a b : Pt) : Int := a.y * b.w - b.y * a.w
def lV (a b : Pt) : Int := b.x * a.w - a.x * b.w
def lS (a b : Pt) : Int := b.x * a.y - a.x * b.y
def mW (a b c d : Pt) : Int := lU a b * lV c d - lU c d * lV a b
def mX (a b c d : Pt) : Int := lS a b * lV c d - lS c d * lV a b
def mY (a b c d : Pt) : Int := lU a b * lS c d - lU c d * lS a b
def mt (a b c d : Pt) : Pt := lowN (mX a b c d) (mY a b c d) (mW a b c d)
theorem dbl_lin (a b z : Pt) : dbl a b z = lU a b * z.x + lV a b * z.y - lS a b * z.w := by
  unfold dbl lU lV lS
  grind
theorem mW_dbl (a b c d : Pt) : mW a b c d = dbl a b d * c.w - dbl a b c * d.w := by
  unfold mW
  rw [dbl_lin, dbl_lin]
  unfold lU lV lS
  grind
theorem mX_dbl (a b c d : Pt) : mX a b c d = dbl a b d * c.x - dbl a b c * d.x := by
  unfold mX
  rw [dbl_lin, dbl_lin]
  unfold lU lV lS
  grind
theorem mY_dbl (a b c d : Pt) : mY a b c d = dbl a b d * c.y - dbl a b c * d.y := by
  unfold mY
  rw [dbl_lin, dbl_lin]
  unfold lU lV lS
  grind
theorem mW_sym (a b c d : Pt) : mW c d a b = - mW a b c d := by unfold mW; grind
theorem mX_sym (a b c d : Pt) : mX c d a b = - mX a b c d := by unfold mX; grind
theorem mY_sym (a b c d : Pt) : mY c d a b = - mY a b c d := by unfold mY; grind
theorem mW_swap (a b c d : Pt) : mW b a c d = - mW a b c d := by unfold mW lU lV; grind
/-- P is where the lines meet -/
structure Meet (a b c d P : Pt) : Prop where
  ca : Ca P
  w : mW a b c d ≠ 0
  x : P.x * mW a b c d = mX a b c d * P.w
  y : P.y * mW a b c d = mY a b c d * P.w
theorem Meet.sym {a b c d P : Pt} (h : Meet a b c d P) : Meet c d a b P := by
  obtain ⟨h1, h2, h3, h4⟩ := h
  refine ⟨h1, ?_, ?_, ?_⟩
  · rw [mW_sym]; omega
  · rw [mW_sym, mX_sym, Int.mul_neg, Int.neg_mul, h3]
  · rw [mW_sym, mY_sym, Int.mul_neg, Int.neg_mul, h4]
theorem Meet.on {a b c d P : Pt} (h : Meet a b c d P) : dbl a b P = 0 := by
  have e : mW a b c d * dbl a b P = 0 := by
    have e1 : mW a b c d * dbl a b P = lU a b * (P.x * mW a b c d) + lV a b * (P.y * mW a b c d) - lS a b * (mW a b c d * P.w) := by
      rw [dbl_lin]
      grind
    rw [e1, h.x, h.y]
    unfold mX mY mW
    grind
  rcases Int.mul_eq_zero.mp e with z | z
  · exact absurd z h.w
  · exact z
theorem Meet.on2 {a b c d P : Pt} (h : Meet a b c d P) : dbl c d P = 0 := h.sym.on
theorem Meet.uniq {a b c d P q : Pt} (h : Meet a b c d P) (hq : Ca q) (h1 : dbl a b q = 0) (h2 : dbl c d q = 0) : q = P := by
  have e1 : mW a b c d * q.x = mX a b c d * q.w := by
    rw [dbl_lin] at h1 h2
    have : mW a b c d * q.x - mX a b c d * q.w = lV c d * (lU a b * q.x + lV a b * q.y - lS a b * q.w) - lV a b * (lU c d * q.x + lV c d * q.y - lS c d * q.w) := by
      unfold mW mX
      grind
    rw [h1, h2] at this
    omega
  have e2 : mW a b c d * q.y = mY a b c d * q.w := by
    rw [dbl_lin] at h1 h2
    have : mW a b c d * q.y - mY a b c d * q.w = lU a b * (lU c d * q.x + lV c d * q.y - lS c d * q.w) - lU c d * (lU a b * q.x + lV a b * q.y - lS a b * q.w) := by
      unfold mW mY
      grind
    rw [h1, h2] at this
    omega
  have k1 := h.x
  have k2 := h.y
  have w := h.w
  refine pt_eq hq.w h.ca.w hq.g h.ca.g ?_ ?_
  · generalize mW a b c d = W at *
    generalize mX a b c d = X at *
    have : W * (q.x * P.w) = W * (P.x * q.w) := by grind
    exact Int.eq_of_mul_eq_mul_left w this
  · generalize mW a b c d = W at *
    generalize mY a b c d = X at *
    have : W * (q.y * P.w) = W * (P.y * q.w) := by grind
    exact Int.eq_of_mul_eq_mul_left w this
theorem sgn_mul (a b : Int) : sgn (a * b) = sgn a * sgn b := by
  rcases sgn_cases a with ⟨h, h'⟩ | ⟨h, h'⟩ | ⟨h, h'⟩ <;> rcases sgn_cases b with ⟨k, k'⟩ | ⟨k, k'⟩ | ⟨k, k'⟩ <;> rw [h, k]
  · have := Int.mul_pos h' k'; have := sgn_cases (a * b); omega
  · rw [k', Int.mul_zero]; have := sgn_cases 0; omega
  · have := Int.mul_neg_of_pos_of_neg h' k'; have := sgn_cases (a * b); omega
  · rw [h', Int.zero_mul]; have := sgn_cases 0; omega
  · rw [h', Int.zero_mul]; have := sgn_cases 0; omega
  · rw [h', Int.zero_mul]; have := sgn_cases 0; omega
  · have := Int.mul_neg_of_neg_of_pos h' k'; have := sgn_cases (a * b); omega
  · rw [k', Int.mul_zero]; have := sgn_cases 0; omega
  · have := Int.mul_pos_of_neg_of_neg h' k'; have := sgn_cases (a * b); omega
theorem lex_mul (k x y : Int) (h : k ≠ 0 ∨ True) : lex (k * x) (k * y) = sgn k * lex x y := by
  unfold lex
  rw [sgn_mul, sgn_mul]
  rcases sgn_cases k with ⟨e, _⟩ | ⟨e, _⟩ | ⟨e, _⟩ <;> rw [e]
  · rw [Int.one_mul, Int.one_mul, Int.one_mul]
  · simp
  · by_cases z : sgn x = 0
    · rw [if_pos z, if_pos (by rw [z]; rfl)]
    · rw [if_neg z, if_neg (by omega)]
theorem scal {p q r t : Pt} {k m : Int} (h1 : k * dx p q = m * dx r t) (h2 : k * dy p q = m * dy r t) : sgn k * ord p q = sgn m * ord r t := by
  rw [ord_lex, ord_lex, ← lex_mul k _ _ (.inr trivial), ← lex_mul m _ _ (.inr trivial), h1, h2]
theorem mW_cc (a b c : Pt) : mW a b c c = 0 := by unfold mW lU lV; grind
theorem Meet.betw {a b c d P : Pt} (h : Meet a b c d P) (hc : Ca c) (hd : Ca d) : betw c d P = decide (sgn (dbl a b c) * sgn (dbl a b d) ≤ 0) := by
  have ne : ord c d ≠ 0 := fun z => h.w (by rw [ord_zero hc hd z]; exact mW_cc _ _ _)
  have hx := h.x
  have hy := h.y
  have hw := h.w
  rw [mX_dbl] at hx
  rw [mY_dbl] at hy
  have eW := mW_dbl a b c d
  have s1 : sgn (mW a b c d) * ord c P = sgn (-(P.w * dbl a b c)) * ord c d := by
    refine scal ?_ ?_
    · have e1 : mW a b c d * dx c P = c.x * P.w * mW a b c d - c.w * (P.x * mW a b c d) := by unfold dx; grind
      rw [e1, hx, eW]
      unfold dx
      generalize dbl a b c = k
      generalize dbl a b d = m
      grind
    · have e1 : mW a b c d * dy c P = c.y * P.w * mW a b c d - c.w * (P.y * mW a b c d) := by unfold dy; grind
      rw [e1, hy, eW]
      unfold dy
      generalize dbl a b c = k
      generalize dbl a b d = m
      grind
  have s2 : sgn (mW a b c d) * ord P d = sgn (P.w * dbl a b d) * ord c d := by
    refine scal ?_ ?_
    · have e1 : mW a b c d * dx P d = d.w * (P.x * mW a b c d) - d.x * P.w * mW a b c d := by unfold dx; grind
      rw [e1, hx, eW]
      unfold dx
      generalize dbl a b c = k
      generalize dbl a b d = m
      grind
    · have e1 : mW a b c d * dy P d = d.w * (P.y * mW a b c d) - d.y * P.w * mW a b c d := by unfold dy; grind
      rw [e1, hy, eW]
      unfold dy
      generalize dbl a b c = k
      generalize dbl a b d = m
      grind
  have n1 : sgn (-(P.w * dbl a b c)) = - sgn (dbl a b c) := by
    have e : -(P.w * dbl a b c) = P.w * (- dbl a b c) := by grind
    rw [e, sgn_mul]
    have w1 : sgn P.w = 1 := by have := sgn_cases P.w; have := h.ca.w; omega
    rw [w1, Int.one_mul]
    have := sgn_cases (dbl a b c)
    have := sgn_cases (- dbl a b c)
    omega
  have n2 : sgn (P.w * dbl a b d) = sgn (dbl a b d) := by
    rw [sgn_mul]
    have w1 : sgn P.w = 1 := by have := sgn_cases P.w; have := h.ca.w; omega
    rw [w1, Int.one_mul]
  rw [n1] at s1
  rw [n2] at s2
  unfold Ev.betw
  rw [if_neg ne, h.on2, decide_eq_true (show sgn 0 = 0 by have := sgn_cases 0; omega), Bool.true_and]
  refine decide_eq_decide.mpr ?_
  have c1 := sgn_cases (mW a b c d)
  have c2 := ord_cases c d
  have c3 := ord_cases c P
  have c4 := ord_cases P d
  have c5 := sgn_cases (dbl a b c)
  have c6 := sgn_cases (dbl a b d)
  have c1' : sgn (mW a b c d) = 1 ∨ sgn (mW a b c d) = -1 := by omega
  have c2' : ord c d = 1 ∨ ord c d = -1 := by omega
  have c3' : ord c P = 1 ∨ ord c P = 0 ∨ ord c P = -1 := by omega
  have c4' : ord P d = 1 ∨ ord P d = 0 ∨ ord P d = -1 := by omega
  generalize sgn (dbl a b c) = k at *
  generalize sgn (dbl a b d) = m at *
  clear c1 c2 c3 c4 c5 c6 n1 n2 hx hy eW
  rcases c1' with e1 | e1 <;> rcases c2' with e2 | e2 <;> rcases c3' with e3 | e3 | e3 <;> rcases c4' with e4 | e4 | e4 <;> rw [e1, e2] at s1 s2 <;> rw [e3] at s1 ⊢ <;> rw [e4] at s2 ⊢ <;> (have sk : k = 0 ∨ k = 1 ∨ k = -1 := by omega) <;> (have sm : m = 0 ∨ m = 1 ∨ m = -1 := by omega) <;> rcases sk with rfl | rfl | rfl <;> rcases sm with rfl | rfl | rfl <;> omega
end Ev
set_option Elab.async false
set_option linter.all false
set_option maxRecDepth 100000
set_option maxHeartbeats 4000000
set_option autoImplicit false
/-! Pl26: points ordered along a turning direction: the pairs sorted by slope, an order after each of them. -/
namespace Ev
/-! ### ways from a point to a later one -/
def wX (a b : Pt) : Int := b.x * a.w - a.x * b.w
def wY (a b : Pt) : Int := b.y * a.w - a.y * b.w
def crs2 (p q : Pt × Pt) : Int := wX p.1 p.2 * wY q.1 q.2 - wX q.1 q.2 * wY p.1 p.2
/-- earlier in the first order -/
def lt0 (a b : Pt) : Prop := ord a b < 0
instance (a b : Pt) : Decidable (lt0 a b) := by unfold lt0; infer_instance
theorem lt0_half {a b : Pt} (h : lt0 a b) : 0 < wX a b ∨ (wX a b = 0 ∧ 0 < wY a b) := by
  unfold lt0 at h
  have c := ord_cases a b
  have e1 : wX a b = - dx a b := by unfold wX dx; omega
  have e2 : wY a b = - dy a b := by unfold wY dy; omega
  omega
/-- no later slope -/
def sle (p q : Pt × Pt) : Prop := 0 ≤ crs2 p q
instance (p q : Pt × Pt) : Decidable (sle p q) := by unfold sle; infer_instance
theorem crs2_neg (p q : Pt × Pt) : crs2 q p = - crs2 p q := by unfold crs2; omega
theorem sle_total (p q : Pt × Pt) : sle p q ∨ sle q p := by
  unfold sle
  have := crs2_neg p q
  omega
theorem sle_trans {p q r : Pt × Pt} (hp : lt0 p.1 p.2) (hq : lt0 q.1 q.2) (hr : lt0 r.1 r.2) (h : sle p q) (k : sle q r) : sle p r := by
  have a := lt0_half hp
  have b := lt0_half hq
  have c := lt0_half hr
  unfold sle crs2 at *
  generalize wX p.1 p.2 = x1 at *
  generalize wY p.1 p.2 = y1 at *
  generalize wX q.1 q.2 = x2 at *
  generalize wY q.1 q.2 = y2 at *
  generalize wX r.1 r.2 = x3 at *
  generalize wY r.1 r.2 = y3 at *
  rcases b with b | ⟨b, b'⟩
  · have id : x2 * (x1 * y3 - x3 * y1) = x3 * (x1 * y2 - x2 * y1) + x1 * (x2 * y3 - x3 * y2) := by grind
    have q1 : 0 ≤ x3 * (x1 * y2 - x2 * y1) := Int.mul_nonneg (by omega) h
    have q2 : 0 ≤ x1 * (x2 * y3 - x3 * y2) := Int.mul_nonneg (by omega) k
    have q3 : 0 ≤ x2 * (x1 * y3 - x3 * y1) := by omega
    by_cases z : x1 * y3 - x3 * y1 < 0
    · have := Int.mul_neg_of_pos_of_neg b z
      omega
    · omega
  · -- upright: so the third is upright too
    rw [b, Int.zero_mul] at k
    have x30 : x3 = 0 := by
      rcases c with c | ⟨c, _⟩
      · have := Int.mul_pos c b'
        omega
      · exact c
    have y3p : 0 < y3 := by omega
    rw [x30, Int.zero_mul]
    have : 0 ≤ x1 * y3 := Int.mul_nonneg (by omega) (by omega)
    omega
/-! ### three points -/
theorem crs_12 (x y z : Pt) : crs2 (x, y) (x, z) = x.w * dbl x y z := by
  have := ldbl_id x y z
  unfold crs2 wX wY
  omega
theorem crs_23 (x y z : Pt) : crs2 (x, z) (y, z) = z.w * dbl x y z := by
  unfold crs2 wX wY dbl
  grind
theorem crs_13 (x y z : Pt) : crs2 (x, y) (y, z) = y.w * dbl x y z := by
  unfold crs2 wX wY dbl
  grind
/-- two sorted parts: what stands in the first has no later slope -/
def Cut (pre suf : List (Pt × Pt)) : Prop := ∀ p ∈ pre, ∀ q ∈ suf, sle p q
/-- the order behind the turns of pre -/
def ltT (pre : List (Pt × Pt)) (a b : Pt) : Prop := (lt0 a b ∧ (a, b) ∉ pre) ∨ (lt0 b a ∧ (b, a) ∈ pre)
instance (pre : List (Pt × Pt)) (a b : Pt) : Decidable (ltT pre a b) := by unfold ltT; infer_instance
section
variable {ps : List Pt} {pre suf : List (Pt × Pt)}
/-- every pair once: in the first part or in the second -/
structure Turn (ps : List Pt) (pre suf : List (Pt × Pt)) : Prop where
  cut : Cut pre suf
  all : ∀ a ∈ ps, ∀ b ∈ ps, lt0 a b → (a, b) ∈ pre ∨ (a, b) ∈ suf
  one : ∀ p ∈ pre, p ∉ suf
theorem lt0_asym {a b : Pt} (h : lt0 a b) : ¬ lt0 b a := by
  unfold lt0 at *
  have := ord_neg a b
  omega
theorem lt0_tri {a b : Pt} (ha : Ca a) (hb : Ca b) (h : a ≠ b) : lt0 a b ∨ lt0 b a := by
  unfold lt0
  have n := ord_neg a b
  have c := ord_cases a b
  by_cases z : ord a b = 0
  · exact absurd (ord_zero ha hb z) h
  · omega
theorem lt0_trans {a b c : Pt} (ha : Ca a) (hb : Ca b) (hc : Ca c) (h : lt0 a b) (k : lt0 b c) : lt0 a c := by
  unfold lt0 at *
  have n1 := ord_neg a b
  have n2 := ord_neg b c
  have n3 := ord_neg a c
  have c1 := ord_cases a b
  have c2 := ord_cases b c
  have := ord_trans hc.w ha.w hb.w (a := c) (b := a) (c := b) (by omega) (by omega) (.inl (by omega))
  omega
/-- turned pairs of three points, left of each other -/
theorem three_pos (T : Turn ps pre suf) {x y z : Pt} (hx : x ∈ ps) (hy : y ∈ ps) (hz : z ∈ ps) (wx : 0 < x.w) (wy : 0 < y.w) (wz : 0 < z.w) (h1 : lt0 x y) (h2 : lt0 y z) (h3 : lt0 x z) (D : 0 < dbl x y z) :
    ((x, z) ∈ pre → (x, y) ∈ pre) ∧ ((y, z) ∈ pre → (x, z) ∈ pre) := by
  have c1 := crs_12 x y z
  have c2 := crs_23 x y z
  have p1 : 0 < crs2 (x, y) (x, z) := by rw [c1]; exact Int.mul_pos wx D
  have p2 : 0 < crs2 (x, z) (y, z) := by rw [c2]; exact Int.mul_pos wz D
  refine ⟨fun h => ?_, fun h => ?_⟩
  · rcases T.all x hx y hy h1 with k | k
    · exact k
    · have := T.cut _ h _ k
      unfold sle at this
      have n := crs2_neg (x, y) (x, z)
      omega
  · rcases T.all x hx z hz h3 with k | k
    · exact k
    · have := T.cut _ h _ k
      unfold sle at this
      have n := crs2_neg (x, z) (y, z)
      omega
theorem three_neg (T : Turn ps pre suf) {x y z : Pt} (hx : x ∈ ps) (hy : y ∈ ps) (hz : z ∈ ps) (wx : 0 < x.w) (wy : 0 < y.w) (wz : 0 < z.w) (h1 : lt0 x y) (h2 : lt0 y z) (h3 : lt0 x z) (D : dbl x y z < 0) :
    ((x, y) ∈ pre → (x, z) ∈ pre) ∧ ((x, z) ∈ pre → (y, z) ∈ pre) := by
  have c1 := crs_12 x y z
  have c2 := crs_23 x y z
  have p1 : crs2 (x, y) (x, z) < 0 := by rw [c1]; exact Int.mul_neg_of_pos_of_neg wx D
  have p2 : crs2 (x, z) (y, z) < 0 := by rw [c2]; exact Int.mul_neg_of_pos_of_neg wz D
  refine ⟨fun h => ?_, fun h => ?_⟩
  · rcases T.all x hx z hz h3 with k | k
    · exact k
    · have := T.cut _ h _ k
      unfold sle at this
      omega
  · rcases T.all y hy z hz h2 with k | k
    · exact k
    · have := T.cut _ h _ k
      unfold sle at this
      omega
/-- which of three stands where, once sorted -/
theorem ltT_asym {a b : Pt} (h : ltT pre a b) : ¬ ltT pre b a := by
  unfold ltT at *
  rintro (⟨k1, k2⟩ | ⟨k1, k2⟩) <;> rcases h with ⟨h1, h2⟩ | ⟨h1, h2⟩
  · exact lt0_asym h1 k1
  · exact k2 h2
  · exact h2 k2
  · exact lt0_asym h1 k1
theorem ltT_tri {a b : Pt} (ha : Ca a) (hb : Ca b) (h : a ≠ b) : ltT pre a b ∨ ltT pre b a := by
  unfold ltT
  rcases lt0_tri ha hb h with k | k
  · by_cases m : (a, b) ∈ pre
    · exact .inr (.inr ⟨k, m⟩)
    · exact .inl (.inl ⟨k, m⟩)
  · by_cases m : (b, a) ∈ pre
    · exact .inl (.inr ⟨k, m⟩)
    · exact .inr (.inl ⟨k, m⟩)
theorem ltT_up {a b : Pt} (k : lt0 a b) : ltT pre a b ↔ (a, b) ∉ pre := by
  unfold ltT
  refine ⟨fun h => ?_, fun h => .inl ⟨k, h⟩⟩
  rcases h with ⟨_, h⟩ | ⟨h, _⟩
  · exact h
  · exact absurd h (lt0_asym k)
theorem ltT_dn {a b : Pt} (k : lt0 a b) : ltT pre b a ↔ (a, b) ∈ pre := by
  unfold ltT
  refine ⟨fun h => ?_, fun h => .inr ⟨k, h⟩⟩
  rcases h with ⟨h, _⟩ | ⟨_, h⟩
  · exact absurd h (lt0_asym k)
  · exact h
/-- behind each turn: an order -/
theorem ltT_trans (T : Turn ps pre suf) (hp : Oks ps) (hca : ∀ p ∈ ps, Ca p) {a b c : Pt} (ha : a ∈ ps) (hb : b ∈ ps) (hc : c ∈ ps) (h : ltT pre a b) (k : ltT pre b c) : ltT pre a c := by
  have irr : ∀ x, ¬ ltT pre x x := fun x z => ltT_asym z z
  have nab : a ≠ b := fun e => irr b (by rw [e] at h; exact h)
  have nbc : b ≠ c := fun e => irr c (by rw [e] at k; exact k)
  have nac : a ≠ c := fun e => ltT_asym h (by rw [e]; exact k)
  have ca := hca a ha; have cb := hca b hb; have cc := hca c hc
  have key : ∀ x y z : Pt, x ∈ ps → y ∈ ps → z ∈ ps → lt0 x y → lt0 y z → lt0 x z → x ≠ y → y ≠ z → x ≠ z → (((x, z) ∈ pre → (x, y) ∈ pre ∨ (y, z) ∈ pre) ∧ ((x, y) ∈ pre → (y, z) ∈ pre → (x, z) ∈ pre)) := fun x y z hx hy hz h1 h2 h3 n1 n2 n3 => by
    have d := hp.gen.g x hx y hy z hz n1 n3 n2
    rcases Int.lt_or_gt_of_ne d with D | D
    · obtain ⟨q1, q2⟩ := three_neg T hx hy hz (hca x hx).w (hca y hy).w (hca z hz).w h1 h2 h3 D
      exact ⟨fun m => .inr (q2 m), fun m _ => q1 m⟩
    · obtain ⟨q1, q2⟩ := three_pos T hx hy hz (hca x hx).w (hca y hy).w (hca z hz).w h1 h2 h3 D
      exact ⟨fun m => .inl (q1 m), fun _ m => q2 m⟩
  rcases lt0_tri ca cb nab with o1 | o1 <;> rcases lt0_tri cb cc nbc with o2 | o2 <;> rcases lt0_tri ca cc nac with o3 | o3
  · -- a b c
    obtain ⟨q1, q2⟩ := key a b c ha hb hc o1 o2 o3 nab nbc nac
    rw [ltT_up o1] at h
    rw [ltT_up o2] at k
    rw [ltT_up o3]
    exact fun m => (q1 m).elim h k
  · exact absurd o3 (lt0_asym (lt0_trans ca cb cc o1 o2))
  · -- a c b
    obtain ⟨q1, q2⟩ := key a c b ha hc hb o3 o2 o1 nac nbc.symm nab
    rw [ltT_up o1] at h
    rw [ltT_dn o2] at k
    rw [ltT_up o3]
    exact fun m => h (q2 m k)
  · -- c a b
    obtain ⟨q1, q2⟩ := key c a b hc ha hb o3 o1 o2 nac.symm nab nbc.symm
    rw [ltT_up o1] at h
    rw [ltT_dn o2] at k
    rw [ltT_dn o3]
    exact (q1 k).elim id fun m => absurd m h
  · -- b a c
    obtain ⟨q1, q2⟩ := key b a c hb ha hc o1 o3 o2 nab.symm nac nbc
    rw [ltT_dn o1] at h
    rw [ltT_up o2] at k
    rw [ltT_up o3]
    exact fun m => k (q2 h m)
  · -- b c a
    obtain ⟨q1, q2⟩ := key b c a hb hc ha o2 o3 o1 nbc nac.symm nab.symm
    rw [ltT_dn o1] at h
    rw [ltT_up o2] at k
    rw [ltT_dn o3]
    exact (q1 h).elim (fun m => absurd m k) id
  · exact absurd o3 (lt0_asym (lt0_trans cc cb ca o2 o1))
  · -- c b a
    obtain ⟨q1, q2⟩ := key c b a hc hb ha o2 o1 o3 nbc.symm nab.symm nac.symm
    rw [ltT_dn o1] at h
    rw [ltT_dn o2] at k
    rw [ltT_dn o3]
    exact q2 k h
end
end Ev
set_option Elab.async false
set_option linter.all false
set_option maxRecDepth 100000
set_option maxHeartbeats 4000000
set_option autoImplicit false
/-! Pl27: two odd lists: a point of each whose line halves both. -/
namespace Ev
/-! ### a list without doubles -/
def dd {α : Type} [DecidableEq α] : List α → List α
  | [] => []
  | x :: l => if x ∈ dd l then dd l else x :: dd l
theorem mem_dd {α : Type} [DecidableEq α] {a : α} : ∀ {l : List α}, a ∈ dd l ↔ a ∈ l
  | [] => Iff.rfl
  | x :: l => by
    unfold dd
    have ih := mem_dd (a := a) (l := l)
    split
    · rename_i h
      rw [ih, List.mem_cons]
      refine ⟨.inr, fun k => k.elim (fun e => ?_) id⟩
      rw [e]
      exact mem_dd.mp h
    · rw [List.mem_cons, List.mem_cons, ih]
theorem nodup_dd {α : Type} [DecidableEq α] : ∀ {l : List α}, (dd l).Nodup
  | [] => List.nodup_nil
  | x :: l => by
    unfold dd
    split
    · exact nodup_dd
    · rename_i h
      exact List.nodup_cons.mpr ⟨h, nodup_dd⟩
def prs0 (ps : List Pt) : List (Pt × Pt) := ps.flatMap fun a => (ps.filter fun b => decide (lt0 a b)).map fun b => (a, b)
theorem prs0_mem {ps : List Pt} {a b : Pt} : (a, b) ∈ prs0 ps ↔ a ∈ ps ∧ b ∈ ps ∧ lt0 a b := by
  unfold prs0
  rw [List.mem_flatMap]
  refine ⟨fun ⟨c, hc, h⟩ => ?_, fun ⟨h1, h2, h3⟩ => ⟨a, h1, List.mem_map.mpr ⟨b, List.mem_filter.mpr ⟨h2, decide_eq_true h3⟩, rfl⟩⟩⟩
  obtain ⟨d, hd, e⟩ := List.mem_map.mp h
  cases e
  exact ⟨hc, (List.mem_filter.mp hd).1, of_decide_eq_true (List.mem_filter.mp hd).2⟩
/-- the pairs in the order of their slopes -/
theorem turns_ex (ps : List Pt) : ∃ l : List (Pt × Pt), l.Nodup ∧ (∀ a b, (a, b) ∈ l ↔ a ∈ ps ∧ b ∈ ps ∧ lt0 a b) ∧ l.Pairwise sle := by
  have mem : ∀ p : Pt × Pt, p ∈ dd (prs0 ps) ↔ p.1 ∈ ps ∧ p.2 ∈ ps ∧ lt0 p.1 p.2 := fun p => by
    rw [mem_dd]
    exact prs0_mem
  obtain ⟨l, h1, h2⟩ := sort_ex (R := sle) (dd (prs0 ps)) (fun p hp q hq r hr => sle_trans ((mem p).mp hp).2.2 ((mem q).mp hq).2.2 ((mem r).mp hr).2.2) (fun p _ q _ _ => sle_total p q) nodup_dd
  exact ⟨l, h1.nodup_iff.mpr nodup_dd, fun a b => by rw [h1.mem_iff, mem], h2⟩
section
variable {ps : List Pt} {l : List (Pt × Pt)}
theorem turn_at (hn : l.Nodup) (hm : ∀ a b, (a, b) ∈ l ↔ a ∈ ps ∧ b ∈ ps ∧ lt0 a b) (hs : l.Pairwise sle) (t : Nat) : Turn ps (l.take t) (l.drop t) := by
  have e : l = l.take t ++ l.drop t := (List.take_append_drop t l).symm
  refine ⟨?_, fun a ha b hb h => ?_, fun p hp hq => ?_⟩
  · rw [e, List.pairwise_append] at hs
    exact fun p hp q hq => hs.2.2 p hp q hq
  · have := (hm a b).mpr ⟨ha, hb, h⟩
    rw [e, List.mem_append] at this
    exact this
  · rw [e, List.nodup_append] at hn
    exact hn.2.2 p hp p hq rfl
/-! ### one turn -/
structure Stepp (ps : List Pt) (pre pre' : List (Pt × Pt)) (x y : Pt) : Prop where
  T : ∃ suf, Turn ps pre suf
  T' : ∃ suf, Turn ps pre' suf
  hx : x ∈ ps
  hy : y ∈ ps
  lt : lt0 x y
  nin : (x, y) ∉ pre
  e : ∀ p, p ∈ pre' ↔ p ∈ pre ∨ p = (x, y)
variable {pre pre' : List (Pt × Pt)} {x y : Pt}
theorem Stepp.same (S : Stepp ps pre pre' x y) {a b : Pt} (h1 : ¬ (a = x ∧ b = y)) (h2 : ¬ (a = y ∧ b = x)) : ltT pre' a b ↔ ltT pre a b := by
  unfold ltT
  rw [S.e, S.e]
  have e1 : (a, b) ≠ (x, y) := fun z => by cases z; exact h1 ⟨rfl, rfl⟩
  have e2 : (b, a) ≠ (x, y) := fun z => by cases z; exact h2 ⟨rfl, rfl⟩
  constructor
  · rintro (⟨k1, k2⟩ | ⟨k1, k2⟩)
    · exact .inl ⟨k1, fun z => k2 (.inl z)⟩
    · exact .inr ⟨k1, k2.elim id fun z => absurd z e2⟩
  · rintro (⟨k1, k2⟩ | ⟨k1, k2⟩)
    · exact .inl ⟨k1, fun z => z.elim k2 e1⟩
    · exact .inr ⟨k1, .inl k2⟩
theorem Stepp.xy (S : Stepp ps pre pre' x y) : ltT pre x y := .inl ⟨S.lt, S.nin⟩
theorem Stepp.yx (S : Stepp ps pre pre' x y) : ltT pre' y x := .inr ⟨S.lt, (S.e _).mpr (.inr rfl)⟩
/-- they stand side by side -/
theorem Stepp.adj (S : Stepp ps pre pre' x y) (hp : Oks ps) (hca : ∀ p ∈ ps, Ca p) {z : Pt} (hz : z ∈ ps) (n1 : z ≠ x) (n2 : z ≠ y) : ltT pre z x ↔ ltT pre z y := by
  obtain ⟨_, T⟩ := S.T
  obtain ⟨_, T'⟩ := S.T'
  refine ⟨fun h => ltT_trans T hp hca hz S.hx S.hy h S.xy, fun h => ?_⟩
  have h' := (S.same (a := z) (b := y) (fun z => n1 z.1) (fun z => n2 z.1)).mpr h
  have := ltT_trans T' hp hca hz S.hy S.hx h' S.yx
  exact (S.same (a := z) (b := x) (fun z => n1 z.1) (fun z => n2 z.1)).mp this
theorem Stepp.adj2 (S : Stepp ps pre pre' x y) (hp : Oks ps) (hca : ∀ p ∈ ps, Ca p) {z : Pt} (hz : z ∈ ps) (n1 : z ≠ x) (n2 : z ≠ y) : ltT pre x z ↔ ltT pre y z := by
  have a := S.adj hp hca hz n1 n2
  have c1 := ltT_tri (pre := pre) (hca z hz) (hca x S.hx) n1
  have c2 := ltT_tri (pre := pre) (hca z hz) (hca y S.hy) n2
  refine ⟨fun h => c2.elim (fun k => absurd (a.mpr k) (ltT_asym h)) id, fun h => c1.elim (fun k => absurd (a.mp k) (ltT_asym h)) id⟩
/-- who stands before them lies to the right -/
theorem Stepp.side (S : Stepp ps pre pre' x y) (hp : Oks ps) (hca : ∀ p ∈ ps, Ca p) {z : Pt} (hz : z ∈ ps) (n1 : z ≠ x) (n2 : z ≠ y) : (dbl x y z < 0 → ltT pre z x) ∧ (0 < dbl x y z → ltT pre x z) := by
  obtain ⟨_, T⟩ := S.T
  obtain ⟨_, T'⟩ := S.T'
  have cx := hca x S.hx; have cy := hca y S.hy; have cz := hca z hz
  have xin : (x, y) ∈ pre' := (S.e _).mpr (.inr rfl)
  have back : ∀ {p : Pt × Pt}, p ∈ pre' → p ≠ (x, y) → p ∈ pre := fun h n => ((S.e _).mp h).elim id fun z => absurd z n
  rcases lt0_tri cz cx n1 with o1 | o1
  · -- z x y
    have o2 := lt0_trans cz cx cy o1 S.lt
    have dc : dbl z x y = dbl x y z := by rw [← dbl_cyc z x y]
    constructor
    · intro D
      obtain ⟨q1, q2⟩ := three_neg T hz S.hx S.hy cz.w cx.w cy.w o1 S.lt o2 (by rw [dc]; exact D)
      exact (ltT_up o1).mpr fun m => S.nin (q2 (q1 m))
    · intro D
      obtain ⟨q1, q2⟩ := three_pos T' hz S.hx S.hy cz.w cx.w cy.w o1 S.lt o2 (by rw [dc]; exact D)
      exact (ltT_dn o1).mpr (back (q1 (q2 xin)) fun e => n1 (by cases e; rfl))
  · rcases lt0_tri cz cy n2 with o2 | o2
    · -- x z y
      have dc : dbl x z y = - dbl x y z := by unfold dbl; grind
      constructor
      · intro D
        obtain ⟨q1, q2⟩ := three_pos T' S.hx hz S.hy cx.w cz.w cy.w o1 o2 S.lt (by rw [dc]; omega)
        exact (ltT_dn o1).mpr (back (q1 xin) fun e => n2 (by cases e; rfl))
      · intro D
        obtain ⟨q1, q2⟩ := three_neg T S.hx hz S.hy cx.w cz.w cy.w o1 o2 S.lt (by rw [dc]; omega)
        exact (ltT_up o1).mpr fun m => S.nin (q1 m)
    · -- x y z
      constructor
      · intro D
        obtain ⟨q1, q2⟩ := three_neg T' S.hx S.hy hz cx.w cy.w cz.w S.lt o2 o1 D
        exact (ltT_dn o1).mpr (back (q1 xin) fun e => n2 (by cases e; rfl))
      · intro D
        obtain ⟨q1, q2⟩ := three_pos T S.hx S.hy hz cx.w cy.w cz.w S.lt o2 o1 D
        exact (ltT_up o1).mpr fun m => S.nin (q1 m)
/-! ### medians -/
def cntT (pre : List (Pt × Pt)) (q : List Pt) (a : Pt) : Nat := q.countP fun b => decide (ltT pre b a)
theorem cnt_lt {suf : List (Pt × Pt)} (T : Turn ps pre suf) (hp : Oks ps) (hca : ∀ p ∈ ps, Ca p) {q : List Pt} (hq : ∀ a ∈ q, a ∈ ps) {a b : Pt} (ha : a ∈ q) (hb : b ∈ q) (h : ltT pre a b) : cntT pre q a < cntT pre q b := by
  have gen : ∀ m : List Pt, (∀ z ∈ m, z ∈ ps) → (m.countP fun z => decide (ltT pre z a)) + (m.countP fun z => decide (z = a)) ≤ m.countP fun z => decide (ltT pre z b) := fun m => by
    induction m with
    | nil => intro _; exact Nat.le_refl _
    | cons z m ih =>
      intro hm
      have ih := ih fun w hw => hm w (List.mem_cons_of_mem _ hw)
      rw [List.countP_cons, List.countP_cons, List.countP_cons]
      have hz := hm z List.mem_cons_self
      by_cases e : z = a
      · subst e
        have n : ¬ ltT pre z z := fun k => ltT_asym k k
        rw [decide_eq_false n, decide_eq_true h]
        simp
        omega
      · have k : ltT pre z a → ltT pre z b := fun k => ltT_trans T hp hca hz (hq a ha) (hq b hb) k h
        by_cases c : ltT pre z a
        · rw [decide_eq_true c, decide_eq_true (k c), decide_eq_false e]
          simp
          omega
        · rw [decide_eq_false c, decide_eq_false e]
          simp
          omega
  have g := gen q hq
  have pos : 0 < q.countP fun z => decide (z = a) := List.countP_pos_iff.mpr ⟨a, ha, decide_eq_true rfl⟩
  unfold cntT
  omega
theorem med_uniq {suf : List (Pt × Pt)} (T : Turn ps pre suf) (hp : Oks ps) (hca : ∀ p ∈ ps, Ca p) {q : List Pt} (hq : ∀ a ∈ q, a ∈ ps) {a b : Pt} (ha : a ∈ q) (hb : b ∈ q) (h : cntT pre q a = cntT pre q b) : a = b := by
  by_cases e : a = b
  · exact e
  · exfalso
    rcases ltT_tri (pre := pre) (hca a (hq a ha)) (hca b (hq b hb)) e with k | k
    · have := cnt_lt T hp hca hq ha hb k
      omega
    · have := cnt_lt T hp hca hq hb ha k
      omega
theorem med_ex {suf : List (Pt × Pt)} (T : Turn ps pre suf) (hp : Oks ps) (hca : ∀ p ∈ ps, Ca p) {q : List Pt} (hq : ∀ a ∈ q, a ∈ ps) (hn : q.Nodup) {h : Nat} (hl : h < q.length) : ∃ a ∈ q, cntT pre q a = h := by
  obtain ⟨s, p1, p2⟩ := sort_ex (R := ltT pre) q (fun a ha b hb c hc => ltT_trans T hp hca (hq a ha) (hq b hb) (hq c hc)) (fun a ha b hb n => ltT_tri (hca a (hq a ha)) (hca b (hq b hb)) n) hn
  have ls : h < s.length := by rw [p1.length_eq]; exact hl
  have e : s = s.take h ++ s[h] :: s.drop (h + 1) := by
    rw [← List.drop_eq_getElem_cons ls, List.take_append_drop]
  have ma : s[h] ∈ q := p1.mem_iff.mp (List.getElem_mem ls)
  refine ⟨s[h], ma, ?_⟩
  unfold cntT
  rw [← p1.countP_eq]
  have l1 : (s.take h).length = h := by rw [List.length_take]; omega
  generalize s[h] = a at *
  generalize s.take h = as at *
  generalize s.drop (h + 1) = bs at *
  rw [e, List.countP_append, List.countP_cons]
  rw [e, List.pairwise_append, List.pairwise_cons] at p2
  obtain ⟨_, ⟨k1, _⟩, k2⟩ := p2
  have c1 : as.countP (fun b => decide (ltT pre b a)) = as.length := List.countP_eq_length.mpr fun b hb => decide_eq_true (k2 b hb a List.mem_cons_self)
  have c2 : bs.countP (fun b => decide (ltT pre b a)) = 0 := List.countP_eq_zero.mpr fun b hb => by
    rw [decide_eq_false (ltT_asym (k1 b hb))]
    decide
  have c3 : decide (ltT pre a a) = false := decide_eq_false fun k => ltT_asym k k
  rw [c1, c2, c3, l1]
  simp
/-- a list with just one of the two, or none: nothing changes there -/
theorem cnt_same (S : Stepp ps pre pre' x y) {q : List Pt} {a : Pt} (h1 : a = x → y ∉ q) (h2 : a = y → x ∉ q) : cntT pre' q a = cntT pre q a := by
  unfold cntT
  refine List.countP_congr fun b hb => ?_
  have := S.same (a := b) (b := a) (fun z => h2 z.2 (by rw [← z.1]; exact hb)) (fun z => h1 z.2 (by rw [← z.1]; exact hb))
  rw [decide_eq_true_iff, decide_eq_true_iff]
  exact this
/-- both in the list: the later one stands where the earlier one stood -/
theorem cnt_swap (S : Stepp ps pre pre' x y) (hp : Oks ps) (hca : ∀ p ∈ ps, Ca p) {q : List Pt} (hq : ∀ a ∈ q, a ∈ ps) : cntT pre' q y = cntT pre q x := by
  have irr : ∀ {p : List (Pt × Pt)} (z : Pt), ¬ ltT p z z := fun z k => ltT_asym k k
  unfold cntT
  refine List.countP_congr fun b hb => ?_
  rw [decide_eq_true_iff, decide_eq_true_iff]
  by_cases e1 : b = x
  · subst e1
    exact ⟨fun k => absurd k (ltT_asym S.yx), fun k => absurd k (irr _)⟩
  · by_cases e2 : b = y
    · subst e2
      exact ⟨fun k => absurd k (irr _), fun k => absurd k (ltT_asym S.xy)⟩
    · rw [S.same (a := b) (b := y) (fun z => e1 z.1) (fun z => e2 z.1)]
      exact (S.adj hp hca (hq b hb) e1 e2).symm
theorem Stepp.ne (S : Stepp ps pre pre' x y) : x ≠ y := fun e => by
  have := S.lt
  rw [e] at this
  exact lt0_asym this this
/-- medians behind one turn -/
theorem med_both (S : Stepp ps pre pre' x y) (hp : Oks ps) (hca : ∀ p ∈ ps, Ca p) {q : List Pt} (hq : ∀ a ∈ q, a ∈ ps) {r r' : Pt} (hr : r ∈ q) (hr' : r' ∈ q) (hx : x ∈ q) (hy : y ∈ q) (e : cntT pre q r = cntT pre' q r') : (r ≠ x ∧ r ≠ y ∧ r' = r) ∨ (r = x ∧ r' = y) ∨ (r = y ∧ r' = x) := by
  obtain ⟨_, T⟩ := S.T
  obtain ⟨_, T'⟩ := S.T'
  have sw := cnt_swap S hp hca hq
  by_cases e1 : r = x
  · subst e1
    refine .inr (.inl ⟨rfl, med_uniq T' hp hca hq hr' hy (by omega)⟩)
  · by_cases e2 : r = y
    · subst e2
      refine .inr (.inr ⟨rfl, ?_⟩)
      by_cases f1 : r' = x
      · exact f1
      · exfalso
        by_cases f2 : r' = r
        · subst f2
          have := med_uniq T hp hca hq hx hr (by omega)
          exact S.ne this
        · have c := cnt_same S (q := q) (a := r') (fun z => absurd z f1) (fun z => absurd z f2)
          exact f2 (med_uniq T hp hca hq hr' hr (by omega))
    · have c := cnt_same S (q := q) (a := r) (fun z => absurd z e1) (fun z => absurd z e2)
      exact .inl ⟨e1, e2, med_uniq T' hp hca hq hr' hr (by omega)⟩
theorem med_one (S : Stepp ps pre pre' x y) (hp : Oks ps) (hca : ∀ p ∈ ps, Ca p) {q : List Pt} (hq : ∀ a ∈ q, a ∈ ps) {r r' : Pt} (hr : r ∈ q) (hr' : r' ∈ q) (h : ¬ (x ∈ q ∧ y ∈ q)) (e : cntT pre q r = cntT pre' q r') : r' = r := by
  obtain ⟨_, T'⟩ := S.T'
  have c := cnt_same S (q := q) (a := r) (fun z k => h ⟨by rw [← z]; exact hr, k⟩) (fun z k => h ⟨k, by rw [← z]; exact hr⟩)
  exact med_uniq T' hp hca hq hr' hr (by omega)
/-! ### two lists -/
structure Two (ps R B : List Pt) (h k : Nat) : Prop where
  nR : R.Nodup
  nB : B.Nodup
  sR : ∀ a ∈ R, a ∈ ps
  sB : ∀ a ∈ B, a ∈ ps
  ds : ∀ a ∈ R, a ∉ B
  lR : R.length = 2 * h + 1
  lB : B.length = 2 * k + 1
def MM (R B : List Pt) (h k : Nat) (pre : List (Pt × Pt)) : Prop := ∃ r b, r ∈ R ∧ b ∈ B ∧ cntT pre R r = h ∧ cntT pre B b = k ∧ ltT pre r b
/-- what a point of each must do -/
def Halves (R B : List Pt) (h k : Nat) (r b : Pt) : Prop := r ∈ R ∧ b ∈ B ∧ (R.countP fun z => decide (dbl r b z < 0)) = h ∧ (R.countP fun z => decide (0 < dbl r b z)) = h ∧ (B.countP fun z => decide (dbl r b z < 0)) = k ∧ (B.countP fun z => decide (0 < dbl r b z)) = k
/-- without one, and in general position: those on the left, those on the right, itself -/
theorem sides_sum {R : List Pt} {x y : Pt} (hp : Oks ps) (hn : R.Nodup) (hs : ∀ a ∈ R, a ∈ ps) (hx : x ∈ ps) (hy : y ∈ ps) (n : x ≠ y) : (R.countP fun z => decide (dbl x y z < 0)) + (R.countP fun z => decide (0 < dbl x y z)) + R.count x + R.count y = R.length := by
  have q := part4 (a := x) (b := y) n R fun z hz h1 h2 => hp.gen.g x hx y hy z (hs z hz) n (fun e => h1 e.symm) (fun e => h2 e.symm)
  have e : (R.countP fun p => decide (0 < dbl y x p)) = R.countP fun z => decide (dbl x y z < 0) := List.countP_congr fun z _ => by
    rw [dbl_swap x y z, decide_eq_true_iff, decide_eq_true_iff]
    omega
  rw [e] at q
  omega
theorem halves_of (S : Stepp ps pre pre' x y) (hp : Oks ps) (hca : ∀ p ∈ ps, Ca p) {R : List Pt} {h : Nat} {c : Pt} (hn : R.Nodup) (hs : ∀ a ∈ R, a ∈ ps) (hl : R.length = 2 * h + 1) (hc : (c = x ∧ y ∉ R) ∨ (c = y ∧ x ∉ R)) (hcR : c ∈ R) (hm : cntT pre R c = h) :
    (R.countP fun z => decide (dbl x y z < 0)) = h ∧ (R.countP fun z => decide (0 < dbl x y z)) = h := by
  have irr : ∀ {p : List (Pt × Pt)} (z : Pt), ¬ ltT p z z := fun z k => ltT_asym k k
  have e1 : (R.countP fun z => decide (dbl x y z < 0)) = h := by
    rw [← hm]
    unfold cntT
    refine List.countP_congr fun z hz => ?_
    rw [decide_eq_true_iff, decide_eq_true_iff]
    by_cases f1 : z = x
    · subst f1
      rw [dbl_aba]
      refine ⟨fun k => by omega, fun k => ?_⟩
      rcases hc with ⟨rfl, _⟩ | ⟨_, hc⟩
      · exact absurd k (irr _)
      · exact absurd hz hc
    · by_cases f2 : z = y
      · subst f2
        rw [dbl_abb]
        refine ⟨fun k => by omega, fun k => ?_⟩
        rcases hc with ⟨_, hc⟩ | ⟨rfl, _⟩
        · exact absurd hz hc
        · exact absurd k (irr _)
      · obtain ⟨s1, s2⟩ := S.side hp hca (hs z hz) f1 f2
        have ad := S.adj hp hca (hs z hz) f1 f2
        have d := hp.gen.g x S.hx y S.hy z (hs z hz) S.ne (fun e => f1 e.symm) (fun e => f2 e.symm)
        have key : dbl x y z < 0 ↔ ltT pre z x := ⟨s1, fun k => by
          by_cases w : 0 < dbl x y z
          · exact absurd (s2 w) (ltT_asym k)
          · omega⟩
        rcases hc with ⟨rfl, _⟩ | ⟨rfl, _⟩
        · exact key
        · exact key.trans ad
  have s := sides_sum hp hn hs S.hx S.hy S.ne
  have cc : R.count x + R.count y = 1 := by
    rcases hc with ⟨rfl, hc⟩ | ⟨rfl, hc⟩
    · rw [hn.count, if_pos hcR, hn.count, if_neg hc]
    · rw [hn.count, if_neg hc, hn.count, if_pos hcR]
  exact ⟨e1, by omega⟩
theorem MM_step (S : Stepp ps pre pre' x y) (hp : Oks ps) (hca : ∀ p ∈ ps, Ca p) {R B : List Pt} {h k : Nat} (W : Two ps R B h k) (no : ∀ r b, ¬ Halves R B h k r b) : MM R B h k pre ↔ MM R B h k pre' := by
  obtain ⟨_, T⟩ := S.T
  obtain ⟨_, T'⟩ := S.T'
  obtain ⟨r, r1, r2⟩ := med_ex T hp hca W.sR W.nR (h := h) (by have := W.lR; omega)
  obtain ⟨r', r1', r2'⟩ := med_ex T' hp hca W.sR W.nR (h := h) (by have := W.lR; omega)
  obtain ⟨b, b1, b2⟩ := med_ex T hp hca W.sB W.nB (h := k) (by have := W.lB; omega)
  obtain ⟨b', b1', b2'⟩ := med_ex T' hp hca W.sB W.nB (h := k) (by have := W.lB; omega)
  have m1 : MM R B h k pre ↔ ltT pre r b := ⟨fun ⟨u, v, u1, v1, u2, v2, l⟩ => by
    rw [med_uniq T hp hca W.sR r1 u1 (by omega), med_uniq T hp hca W.sB b1 v1 (by omega)]
    exact l, fun l => ⟨r, b, r1, b1, r2, b2, l⟩⟩
  have m2 : MM R B h k pre' ↔ ltT pre' r' b' := ⟨fun ⟨u, v, u1, v1, u2, v2, l⟩ => by
    rw [med_uniq T' hp hca W.sR r1' u1 (by omega), med_uniq T' hp hca W.sB b1' v1 (by omega)]
    exact l, fun l => ⟨r', b', r1', b1', r2', b2', l⟩⟩
  rw [m1, m2]
  by_cases bR : x ∈ R ∧ y ∈ R
  · have xB := W.ds x bR.1
    have yB := W.ds y bR.2
    have eb : b' = b := med_one S hp hca W.sB b1 b1' (fun z => xB z.1) (by omega)
    have bx : b ≠ x := fun e => xB (by rw [← e]; exact b1)
    have bY : b ≠ y := fun e => yB (by rw [← e]; exact b1)
    rw [eb]
    rcases med_both S hp hca W.sR r1 r1' bR.1 bR.2 (by omega) with ⟨f1, f2, f3⟩ | ⟨f1, f2⟩ | ⟨f1, f2⟩
    · rw [f3]
      exact (S.same (fun z => f1 z.1) (fun z => f2 z.1)).symm
    · rw [f1, f2]
      exact (S.adj2 hp hca (W.sB b b1) bx bY).trans (S.same (fun z => bY z.2) (fun z => bx z.2)).symm
    · rw [f1, f2]
      exact (S.adj2 hp hca (W.sB b b1) bx bY).symm.trans (S.same (fun z => bY z.2) (fun z => bx z.2)).symm
  · have er : r' = r := med_one S hp hca W.sR r1 r1' bR (by omega)
    rw [er]
    by_cases bB : x ∈ B ∧ y ∈ B
    · have xR : r ≠ x := fun e => W.ds r r1 (by rw [e]; exact bB.1)
      have yR : r ≠ y := fun e => W.ds r r1 (by rw [e]; exact bB.2)
      rcases med_both S hp hca W.sB b1 b1' bB.1 bB.2 (by omega) with ⟨f1, f2, f3⟩ | ⟨f1, f2⟩ | ⟨f1, f2⟩
      · rw [f3]
        exact (S.same (fun z => f2 z.2) (fun z => f1 z.2)).symm
      · rw [f1, f2]
        exact (S.adj hp hca (W.sR r r1) xR yR).trans (S.same (fun z => xR z.1) (fun z => yR z.1)).symm
      · rw [f1, f2]
        exact (S.adj hp hca (W.sR r r1) xR yR).symm.trans (S.same (fun z => xR z.1) (fun z => yR z.1)).symm
    · have eb : b' = b := med_one S hp hca W.sB b1 b1' bB (by omega)
      rw [eb]
      have xy1 : ¬ (r = x ∧ b = y) := fun ⟨e1, e2⟩ => by
        subst e1 e2
        have hR := halves_of S hp hca W.nR W.sR W.lR (.inl ⟨rfl, fun z => W.ds _ z b1⟩) r1 r2
        have hB := halves_of S hp hca W.nB W.sB W.lB (.inr ⟨rfl, fun z => W.ds _ r1 z⟩) b1 b2
        exact no r b ⟨r1, b1, hR.1, hR.2, hB.1, hB.2⟩
      have xy2 : ¬ (r = y ∧ b = x) := fun ⟨e1, e2⟩ => by
        subst e1 e2
        have hR := halves_of S hp hca W.nR W.sR W.lR (.inr ⟨rfl, fun z => W.ds _ z b1⟩) r1 r2
        have hB := halves_of S hp hca W.nB W.sB W.lB (.inl ⟨rfl, fun z => W.ds _ r1 z⟩) b1 b2
        have sw : ∀ L : List Pt, (L.countP fun z => decide (dbl r b z < 0)) = (L.countP fun z => decide (0 < dbl b r z)) ∧ (L.countP fun z => decide (0 < dbl r b z)) = L.countP fun z => decide (dbl b r z < 0) := fun L => ⟨List.countP_congr fun z _ => by
          rw [dbl_swap b r z, decide_eq_true_iff, decide_eq_true_iff]
          omega, List.countP_congr fun z _ => by
          rw [dbl_swap b r z, decide_eq_true_iff, decide_eq_true_iff]
          omega⟩
        refine no r b ⟨r1, b1, ?_, ?_, ?_, ?_⟩
        · rw [(sw R).1]; exact hR.2
        · rw [(sw R).2]; exact hR.1
        · rw [(sw B).1]; exact hB.2
        · rw [(sw B).2]; exact hB.1
      exact (S.same xy1 xy2).symm
/-- there is one -/
theorem ham (hp : Oks ps) (hca : ∀ p ∈ ps, Ca p) {R B : List Pt} {h k : Nat} (W : Two ps R B h k) : ∃ r b, Halves R B h k r b := by
  by_cases ex : ∃ r b, Halves R B h k r b
  · exact ex
  · exfalso
    have no : ∀ r b, ¬ Halves R B h k r b := fun r b z => ex ⟨r, b, z⟩
    obtain ⟨l, hn, hm, hs⟩ := turns_ex ps
    have all : ∀ t, t ≤ l.length → (MM R B h k (l.take 0) ↔ MM R B h k (l.take t)) := fun t => by
      induction t with
      | zero => exact fun _ => Iff.rfl
      | succ t ih =>
        intro ht
        refine (ih (by omega)).trans ?_
        have hr : l[t]? = some l[t] := List.getElem?_eq_getElem (by omega)
        have hmem := List.getElem_mem (l := l) (n := t) (by omega)
        have et : l.take (t + 1) = l.take t ++ [l[t]] := by rw [List.take_add_one, hr]; rfl
        have nin : l[t] ∉ l.take t := fun z => by
          obtain ⟨i, hi⟩ := List.mem_iff_getElem?.mp z
          have hil := (List.getElem?_eq_some_iff.mp hi).1
          rw [List.length_take] at hil
          rw [List.getElem?_take_of_lt (by omega)] at hi
          obtain ⟨q1, q2⟩ := List.getElem?_eq_some_iff.mp hi
          exact List.pairwise_iff_getElem.mp hn i t q1 (by omega) (by omega) q2
        have T := turn_at hn hm hs t
        have T' := turn_at hn hm hs (t + 1)
        rw [et] at T' ⊢
        generalize l[t] = p at *
        obtain ⟨x, y⟩ := p
        obtain ⟨m1, m2, m3⟩ := (hm x y).mp hmem
        exact MM_step ⟨⟨_, T⟩, ⟨_, T'⟩, m1, m2, m3, nin, fun p => by rw [List.mem_append, List.mem_singleton]⟩ hp hca W no
    have fin := all l.length (Nat.le_refl _)
    rw [List.take_length, List.take_zero] at fin
    -- the last order is the first one, turned
    have rev : ∀ a ∈ ps, ∀ b ∈ ps, (ltT l a b ↔ ltT [] b a) := fun a ha b hb => by
      unfold ltT
      constructor
      · rintro (⟨k1, k2⟩ | ⟨k1, _⟩)
        · exact absurd ((hm a b).mpr ⟨ha, hb, k1⟩) k2
        · exact .inl ⟨k1, fun z => by cases z⟩
      · rintro (⟨k1, _⟩ | ⟨_, k2⟩)
        · exact .inr ⟨k1, (hm b a).mpr ⟨hb, ha, k1⟩⟩
        · cases k2
    have T0 := turn_at hn hm hs 0
    have TN := turn_at hn hm hs l.length
    rw [List.take_length] at TN
    rw [List.take_zero] at T0
    have crev : ∀ {q : List Pt} {h : Nat} {a : Pt}, q.Nodup → (∀ a ∈ q, a ∈ ps) → q.length = 2 * h + 1 → a ∈ q → cntT [] q a = h → cntT l q a = h := fun {q h a} nq sq lq ha hc => by
      have gen : ∀ m : List Pt, (∀ z ∈ m, z ∈ ps) → (m.countP fun z => decide (ltT l z a)) + (m.countP fun z => decide (ltT [] z a)) + m.count a = m.length := fun m => by
        induction m with
        | nil => intro _; rfl
        | cons z m ih =>
          intro hm'
          have ih := ih fun w hw => hm' w (List.mem_cons_of_mem _ hw)
          have hz := hm' z List.mem_cons_self
          rw [List.countP_cons, List.countP_cons, List.count_cons, List.length_cons]
          by_cases e : z = a
          · subst e
            rw [decide_eq_false (fun k : ltT l z z => ltT_asym k k), decide_eq_false (fun k : ltT [] z z => ltT_asym k k)]
            simp
            omega
          · have be : (z == a) = false := by simpa using e
            rw [be]
            have r1 := rev z hz a (sq a ha)
            rcases ltT_tri (pre := []) (hca z hz) (hca a (sq a ha)) e with c | c
            · rw [decide_eq_true c, decide_eq_false (fun k => ltT_asym c (r1.mp k))]
              simp
              omega
            · rw [decide_eq_false (ltT_asym c), decide_eq_true (r1.mpr c)]
              simp
              omega
      have := gen q sq
      rw [nq.count, if_pos ha] at this
      unfold cntT at hc ⊢
      omega
    obtain ⟨r, r1, r2⟩ := med_ex T0 hp hca W.sR W.nR (h := h) (by have := W.lR; omega)
    obtain ⟨b, b1, b2⟩ := med_ex T0 hp hca W.sB W.nB (h := k) (by have := W.lB; omega)
    have r3 := crev W.nR W.sR W.lR r1 r2
    have b3 := crev W.nB W.sB W.lB b1 b2
    have ne : r ≠ b := fun e => W.ds r r1 (by rw [e]; exact b1)
    have rv := rev r (W.sR r r1) b (W.sB b b1)
    rcases ltT_tri (pre := []) (hca r (W.sR r r1)) (hca b (W.sB b b1)) ne with c | c
    · obtain ⟨u, v, u1, v1, u2, v2, lt⟩ := fin.mp ⟨r, b, r1, b1, r2, b2, c⟩
      rw [med_uniq TN hp hca W.sR u1 r1 (by omega), med_uniq TN hp hca W.sB v1 b1 (by omega)] at lt
      exact ltT_asym c (rv.mp lt)
    · obtain ⟨u, v, u1, v1, u2, v2, lt⟩ := fin.mpr ⟨r, b, r1, b1, r3, b3, rv.mpr c⟩
      rw [med_uniq T0 hp hca W.sR u1 r1 (by omega), med_uniq T0 hp hca W.sB v1 b1 (by omega)] at lt
      exact ltT_asym c lt
end
end Ev
set_option Elab.async false
set_option linter.all false
set_option maxRecDepth 100000
set_option maxHeartbeats 4000000
set_option autoImplicit false
/-! Pl28: as many points in general position as are asked, up to 8. -/
namespace Ev
/-! ### the second loop's candidates: points of a parabola -/
theorem dblq {a b : Pt} (wa : a.w = 1) (wb : b.w = 1) (t : Nat) : dbl a b (qg t) = (b.x - a.x) * ((t : Int) * t + 11 - a.y) - (b.y - a.y) * ((t : Int) - a.x) := by
  unfold dbl qg
  rw [wa, wb]
  grind
theorem root_diff {a b : Pt} (wa : a.w = 1) (wb : b.w = 1) {t s : Nat} (h : dbl a b (qg t) = 0) (k : dbl a b (qg s) = 0) (n : t ≠ s) : (b.x - a.x) * ((t : Int) + s) = b.y - a.y := by
  rw [dblq wa wb] at h k
  have e : ((t : Int) - s) * ((b.x - a.x) * ((t : Int) + s) - (b.y - a.y)) = 0 := by
    generalize b.x - a.x = A at *
    generalize b.y - a.y = B at *
    have : A * ((t : Int) * t + 11 - a.y) - B * ((t : Int) - a.x) - (A * ((s : Int) * s + 11 - a.y) - B * ((s : Int) - a.x)) = ((t : Int) - s) * (A * ((t : Int) + s) - B) := by grind
    rw [h, k] at this
    omega
  rcases Int.mul_eq_zero.mp e with z | z
  · omega
  · omega
theorem pt_w1 {a b : Pt} (wa : a.w = 1) (wb : b.w = 1) (h1 : b.x - a.x = 0) (h2 : b.y - a.y = 0) : a = b := by
  obtain ⟨x, y, w⟩ := a
  obtain ⟨x', y', w'⟩ := b
  simp only at *
  rw [wa, wb, show x' = x by omega, show y' = y by omega]
/-- two roots beside a third are one -/
theorem root_two {a b : Pt} (wa : a.w = 1) (wb : b.w = 1) (n : a ≠ b) {t s u : Nat} (ht : dbl a b (qg t) = 0) (hs : dbl a b (qg s) = 0) (hu : dbl a b (qg u) = 0) (h1 : t ≠ u) (h2 : s ≠ u) : t = s := by
  have e1 := root_diff wa wb ht hu h1
  have e2 := root_diff wa wb hs hu h2
  have e : (b.x - a.x) * ((t : Int) - s) = 0 := by
    have : (b.x - a.x) * ((t : Int) - s) = (b.x - a.x) * ((t : Int) + u) - (b.x - a.x) * ((s : Int) + u) := by
      generalize b.x - a.x = A
      grind
    omega
  rcases Int.mul_eq_zero.mp e with z | z
  · rw [z, Int.zero_mul] at e1
    exact absurd (pt_w1 wa wb z e1.symm) n
  · omega
theorem all_same {l : List Nat} (hn : l.Nodup) (h : ∀ a ∈ l, ∀ b ∈ l, a = b) : l.length ≤ 1 := by
  match l, hn, h with
  | [], _, _ => exact Nat.zero_le _
  | [_], _, _ => exact Nat.le_refl _
  | a :: b :: l, hn, h =>
    exact absurd (h a List.mem_cons_self b (List.mem_cons_of_mem _ List.mem_cons_self)) fun e => (List.nodup_cons.mp hn).1 (by rw [e]; exact List.mem_cons_self)
theorem cnt_two {a b : Pt} (wa : a.w = 1) (wb : b.w = 1) (n : a ≠ b) : (List.range 40).countP (fun t => decide (dbl a b (qg t) = 0)) ≤ 2 := by
  rw [List.countP_eq_length_filter]
  have nd : ((List.range 40).filter fun t => decide (dbl a b (qg t) = 0)).Nodup := List.nodup_range.filter _
  have mem : ∀ t ∈ (List.range 40).filter fun t => decide (dbl a b (qg t) = 0), dbl a b (qg t) = 0 := fun t ht => of_decide_eq_true (List.mem_filter.mp ht).2
  generalize (List.range 40).filter (fun t => decide (dbl a b (qg t) = 0)) = l at *
  match l, nd, mem with
  | [], _, _ => exact Nat.zero_le _
  | u :: r, nd, mem =>
    obtain ⟨n1, n2⟩ := List.nodup_cons.mp nd
    have hu := mem u List.mem_cons_self
    have := all_same n2 fun t ht s hs => root_two wa wb n (mem t (List.mem_cons_of_mem _ ht)) (mem s (List.mem_cons_of_mem _ hs)) hu (fun e => n1 (by rw [← e]; exact ht)) (fun e => n1 (by rw [← e]; exact hs))
    rw [List.length_cons]
    omega
theorem qg_dbl (s u t : Nat) : dbl (qg s) (qg u) (qg t) = ((u : Int) - s) * (((t : Int) - s) * ((t : Int) - u)) := by
  unfold dbl qg
  grind
theorem qg_inj {s t : Nat} (h : qg s = qg t) : s = t := by
  have : (qg s).x = (qg t).x := by rw [h]
  have : (s : Int) = (t : Int) := this
  omega
theorem cnt_one {a : Pt} {s : Nat} (wa : a.w = 1) (n : a ≠ qg s) : (List.range 40).countP (fun t => decide (dbl a (qg s) (qg t) = 0) && decide (t ≠ s)) ≤ 1 := by
  rw [List.countP_eq_length_filter]
  refine all_same (List.nodup_range.filter _) fun t ht u hu => ?_
  have h1 := (List.mem_filter.mp ht).2
  have h2 := (List.mem_filter.mp hu).2
  rw [Bool.and_eq_true] at h1 h2
  exact root_two wa rfl n (of_decide_eq_true h1.1) (of_decide_eq_true h2.1) (dbl_abb a (qg s)) (of_decide_eq_true h1.2) (of_decide_eq_true h2.2)
/-! ### counting what is covered -/
theorem cnt_or {l : List Nat} {f g : Nat → Bool} : l.countP (fun t => f t || g t) ≤ l.countP f + l.countP g := by
  induction l with
  | nil => exact Nat.zero_le _
  | cons a l ih =>
    rw [List.countP_cons, List.countP_cons, List.countP_cons]
    cases f a <;> cases g a <;> simp <;> omega
theorem cnt_any {l : List Nat} {g : Nat → Nat → Bool} : ∀ n, l.countP (fun t => (List.range n).any fun i => g i t) ≤ ss (fun i => l.countP (g i)) n
  | 0 => by
    rw [List.countP_eq_zero.mpr fun t _ => by simp]
    exact Nat.le_refl _
  | n + 1 => by
    have ih := cnt_any (l := l) (g := g) n
    have e : (fun t => (List.range (n + 1)).any fun i => g i t) = fun t => ((List.range n).any fun i => g i t) || g n t := by
      funext t
      rw [range_any_succ]
    rw [e]
    have := cnt_or (l := l) (f := fun t => (List.range n).any fun i => g i t) (g := g n)
    show _ ≤ ss (fun i => l.countP (g i)) n + l.countP (g n)
    omega
theorem ss_le {F : Nat → Nat} {c : Nat} : ∀ n, (∀ i, i < n → F i ≤ c) → ss F n ≤ n * c
  | 0, _ => by show 0 ≤ _; omega
  | n + 1, h => by
    have ih := ss_le (F := F) (c := c) n fun i hi => h i (by omega)
    have := h n (by omega)
    show ss F n + F n ≤ _
    rw [Nat.succ_mul]
    omega
theorem cnt_mono {l : List Nat} {f g : Nat → Bool} (h : ∀ t ∈ l, f t = true → g t = true) : l.countP f ≤ l.countP g := by
  induction l with
  | nil => exact Nat.le_refl _
  | cons a l ih =>
    have ih := ih fun t ht => h t (List.mem_cons_of_mem _ ht)
    have ha := h a List.mem_cons_self
    rw [List.countP_cons, List.countP_cons]
    cases z : f a with
    | false => simp; omega
    | true => rw [ha z]; simp; omega
def pA (ps : List Pt) (i : Nat) : Pt := (ps[i]?).getD ⟨0, 0, 1⟩
/-- a candidate is one of them, or on a line of two -/
def Cov (ps : List Pt) (t : Nat) : Prop := qg t ∈ ps ∨ ∃ u v, u < v ∧ v < ps.length ∧ dbl (pA ps u) (pA ps v) (qg t) = 0
theorem pA_app {ps qs : List Pt} {i : Nat} (h : i < ps.length) : pA (ps ++ qs) i = pA ps i := by
  unfold pA
  rw [List.getElem?_append_left h]
theorem Cov.app {ps qs : List Pt} {t : Nat} (h : Cov ps t) : Cov (ps ++ qs) t := by
  rcases h with h | ⟨u, v, h1, h2, h3⟩
  · exact .inl (List.mem_append_left _ h)
  · refine .inr ⟨u, v, h1, by rw [List.length_append]; omega, ?_⟩
    rw [pA_app (by omega), pA_app h2]
    exact h3
theorem bad_cov {ps : List Pt} {t : Nat} (h : bad ps (qg t) ps.length = true) : Cov ps t := by
  unfold bad at h
  rw [Bool.or_eq_true] at h
  rcases h with h | h
  · exact .inl (of_decide_eq_true h)
  · rw [List.any_eq_true] at h
    obtain ⟨i, hi, h⟩ := h
    have hi := List.mem_range.mp hi
    rw [List.any_eq_true] at h
    obtain ⟨q, hq, h⟩ := h
    have hr : ps[i]? = some ps[i] := List.getElem?_eq_getElem hi
    rw [hr] at h
    have h : decide (dbl q ps[i] (qg t) = 0) = true := h
    obtain ⟨u, hu⟩ := List.mem_iff_getElem?.mp hq
    have hl := (List.getElem?_eq_some_iff.mp hu).1
    rw [List.length_take] at hl
    rw [List.getElem?_take_of_lt (by omega)] at hu
    refine .inr ⟨u, i, by omega, hi, ?_⟩
    unfold pA
    rw [hu, hr]
    exact of_decide_eq_true h
/-- drawn points first, then points of the parabola -/
structure Mix (R Q : List Pt) : Prop where
  gR : ∀ p ∈ R, Gd 9 p
  gQ : ∀ p ∈ Q, ∃ i, i < 40 ∧ p = qg i
  gen : Gen (R ++ Q)
theorem pA_mem {ps : List Pt} {i : Nat} (h : i < ps.length) : pA ps i ∈ ps := by
  have hr : ps[i]? = some ps[i] := List.getElem?_eq_getElem h
  unfold pA
  rw [hr]
  exact List.getElem_mem h
theorem pA_ne {ps : List Pt} (hn : ps.Nodup) {u v : Nat} (h : u < v) (k : v < ps.length) : pA ps u ≠ pA ps v := by
  have h1 : ps[u]? = some (ps[u]'(by omega)) := List.getElem?_eq_getElem (by omega)
  have h2 : ps[v]? = some ps[v] := List.getElem?_eq_getElem k
  unfold pA
  rw [h1, h2]
  exact nd_ne hn h h1 h2
theorem not_all {R Q : List Pt} (M : Mix R Q) (hl : R.length + Q.length ≤ 7) (hc : ∀ t, t < 40 → Cov (R ++ Q) t) : False := by
  have w1 : ∀ p ∈ R ++ Q, p.w = 1 := fun p hp => by
    rcases List.mem_append.mp hp with h | h
    · exact (M.gR p h).w
    · obtain ⟨i, _, rfl⟩ := M.gQ p h
      rfl
  have pR : ∀ i, i < R.length → pA (R ++ Q) i ∈ R := fun i hi => by
    rw [pA_app hi]
    exact pA_mem hi
  have pQ : ∀ i, R.length ≤ i → i < (R ++ Q).length → pA (R ++ Q) i ∈ Q := fun i h1 h2 => by
    rw [List.length_append] at h2
    have h3 : i - R.length < Q.length := by omega
    have hr : Q[i - R.length]? = some Q[i - R.length] := List.getElem?_eq_getElem h3
    unfold pA
    rw [List.getElem?_append_right h1, hr]
    exact List.getElem_mem h3
  by_cases hQ : Q = []
  · subst hQ
    have gen := M.gen
    rw [List.append_nil] at gen
    rw [List.append_nil] at hc
    -- the last candidate is on no line of two drawn points
    rcases hc 39 (by omega) with h | ⟨u, v, h1, h2, h3⟩
    · have := (M.gR _ h).x
      unfold Nb qg at this
      simp at this
    · have hu := M.gR _ (pA_mem (ps := R) (i := u) (by omega))
      have hv := M.gR _ (pA_mem (ps := R) (i := v) h2)
      have hn : pA R u ≠ pA R v := pA_ne gen.nd h1 h2
      generalize pA R u = a at *
      generalize pA R v = b at *
      rw [dblq hu.w hv.w] at h3
      have x1 := hu.x; have x2 := hv.x; have y1 := hu.y; have y2 := hv.y
      unfold Nb at x1 x2 y1 y2
      have bnd : Nb (18 * 48) ((b.y - a.y) * (((39 : Nat) : Int) - a.x)) := Nb.mul (by unfold Nb; omega) (by unfold Nb; omega)
      unfold Nb at bnd
      by_cases z : b.x - a.x = 0
      · rw [z, Int.zero_mul] at h3
        have h3 : (b.y - a.y) * (((39 : Nat) : Int) - a.x) = 0 := by omega
        rcases Int.mul_eq_zero.mp h3 with k | k
        · exact hn (pt_w1 hu.w hv.w z k)
        · omega
      · have e : (b.x - a.x) * (((39 : Nat) : Int) * ((39 : Nat) : Int) + 11 - a.y) = (b.y - a.y) * (((39 : Nat) : Int) - a.x) := by omega
        have big : ((b.x - a.x) * (((39 : Nat) : Int) * ((39 : Nat) : Int) + 11 - a.y)).natAbs ≥ 1 * 1000 := by
          rw [Int.natAbs_mul]
          exact Nat.mul_le_mul (by omega) (by omega)
        rw [e] at big
        omega
  · have hQl : 1 ≤ Q.length := by
      match Q, hQ with
      | _ :: _, _ => exact Nat.succ_le_succ (Nat.zero_le _)
    -- each candidate: own, or of a pair, but not of its ends
    have m : (R ++ Q).length = R.length + Q.length := List.length_append
    have cover : ∀ t ∈ List.range 40, (fun _ : Nat => true) t = true → ((fun t => (List.range Q.length).any fun i => decide (qg t = pA (R ++ Q) (R.length + i))) t || (fun t => (List.range (R ++ Q).length).any fun v => (List.range v).any fun u => decide (dbl (pA (R ++ Q) u) (pA (R ++ Q) v) (qg t) = 0) && (decide (qg t ≠ pA (R ++ Q) u) && decide (qg t ≠ pA (R ++ Q) v))) t) = true := fun t ht _ => by
      have ht := List.mem_range.mp ht
      have own : qg t ∈ R ++ Q → ((List.range Q.length).any fun i => decide (qg t = pA (R ++ Q) (R.length + i))) = true := fun h => by
        obtain ⟨i, hi⟩ := List.mem_iff_getElem?.mp h
        have hil := (List.getElem?_eq_some_iff.mp hi).1
        have ei : pA (R ++ Q) i = qg t := by unfold pA; rw [hi]; rfl
        have nR : R.length ≤ i := by
          by_cases k : i < R.length
          · exfalso
            have := (M.gR _ (pR i k)).y
            rw [ei] at this
            have this9 : ((t : Int) * t + 11).natAbs ≤ 9 := this
            have : 0 ≤ (t : Int) * t := Int.mul_nonneg (by omega) (by omega)
            omega
          · omega
        rw [List.any_eq_true]
        refine ⟨i - R.length, List.mem_range.mpr (by omega), decide_eq_true ?_⟩
        rw [show R.length + (i - R.length) = i by omega, ei]
      rw [Bool.or_eq_true]
      rcases hc t ht with h | ⟨u, v, h1, h2, h3⟩
      · exact .inl (own h)
      · by_cases e1 : qg t = pA (R ++ Q) u
        · exact .inl (own (by rw [e1]; exact pA_mem (by omega)))
        · by_cases e2 : qg t = pA (R ++ Q) v
          · exact .inl (own (by rw [e2]; exact pA_mem h2))
          · refine .inr ?_
            show ((List.range (R ++ Q).length).any fun v => (List.range v).any fun u => decide (dbl (pA (R ++ Q) u) (pA (R ++ Q) v) (qg t) = 0) && (decide (qg t ≠ pA (R ++ Q) u) && decide (qg t ≠ pA (R ++ Q) v))) = true
            rw [List.any_eq_true]
            refine ⟨v, List.mem_range.mpr h2, ?_⟩
            rw [List.any_eq_true]
            refine ⟨u, List.mem_range.mpr h1, ?_⟩
            rw [decide_eq_true h3, decide_eq_true e1, decide_eq_true e2]
            rfl
    have c0 := cnt_mono (l := List.range 40) cover
    have c1 := cnt_or (l := List.range 40) (f := fun t => (List.range Q.length).any fun i => decide (qg t = pA (R ++ Q) (R.length + i))) (g := fun t => (List.range (R ++ Q).length).any fun v => (List.range v).any fun u => decide (dbl (pA (R ++ Q) u) (pA (R ++ Q) v) (qg t) = 0) && (decide (qg t ≠ pA (R ++ Q) u) && decide (qg t ≠ pA (R ++ Q) v)))
    have all40 : (List.range 40).countP (fun _ => true) = 40 := rfl
    have c2 : (List.range 40).countP (fun t => (List.range Q.length).any fun i => decide (qg t = pA (R ++ Q) (R.length + i))) ≤ Q.length * 1 := by
      refine Nat.le_trans (cnt_any (g := fun i t => decide (qg t = pA (R ++ Q) (R.length + i))) Q.length) (ss_le _ fun i hi => ?_)
      rw [List.countP_eq_length_filter]
      refine all_same (List.nodup_range.filter _) fun a ha b hb => qg_inj ?_
      rw [of_decide_eq_true (List.mem_filter.mp ha).2, of_decide_eq_true (List.mem_filter.mp hb).2]
    -- pairs
    have pr : ∀ v, v < (R ++ Q).length → (List.range 40).countP (fun t => (List.range v).any fun u => decide (dbl (pA (R ++ Q) u) (pA (R ++ Q) v) (qg t) = 0) && (decide (qg t ≠ pA (R ++ Q) u) && decide (qg t ≠ pA (R ++ Q) v))) ≤ if v < R.length then v * 2 else R.length * 1 := fun v hv => by
      refine Nat.le_trans (cnt_any (g := fun u t => decide (dbl (pA (R ++ Q) u) (pA (R ++ Q) v) (qg t) = 0) && (decide (qg t ≠ pA (R ++ Q) u) && decide (qg t ≠ pA (R ++ Q) v))) v) ?_
      have wv := w1 _ (pA_mem hv)
      split
      · refine ss_le _ fun u hu => ?_
        have wu := w1 _ (pA_mem (ps := R ++ Q) (i := u) (by omega))
        refine Nat.le_trans (cnt_mono fun t _ h => ?_) (cnt_two wu wv (pA_ne M.gen.nd hu hv))
        rw [Bool.and_eq_true] at h
        exact h.1
      · rename_i nv
        obtain ⟨s, hs, es⟩ := M.gQ _ (pQ v (by omega) hv)
        have e2 : v = R.length + (v - R.length) := by omega
        rw [e2, ss_plus]
        have z : ss (fun u => (List.range 40).countP fun t => decide (dbl (pA (R ++ Q) (R.length + u)) (pA (R ++ Q) (R.length + (v - R.length))) (qg t) = 0) && (decide (qg t ≠ pA (R ++ Q) (R.length + u)) && decide (qg t ≠ pA (R ++ Q) (R.length + (v - R.length))))) (v - R.length) = 0 := ss_zero fun u hu => by
          rw [List.countP_eq_zero]
          intro t _ h
          rw [Bool.and_eq_true, Bool.and_eq_true] at h
          obtain ⟨h1, h2, h3⟩ := h
          have h1 := of_decide_eq_true h1
          have h2 := of_decide_eq_true h2
          have h3 := of_decide_eq_true h3
          rw [← e2] at h1 h3
          obtain ⟨s', _, es'⟩ := M.gQ _ (pQ (R.length + u) (by omega) (by omega))
          have ne := pA_ne M.gen.nd (u := R.length + u) (v := v) (by omega) hv
          rw [es, es'] at h1 ne
          rw [es'] at h2
          rw [es] at h3
          rw [qg_dbl] at h1
          rcases Int.mul_eq_zero.mp h1 with k | k
          · exact ne (by rw [show s' = s by omega])
          · rcases Int.mul_eq_zero.mp k with k | k
            · exact h2 (by rw [show t = s' by omega])
            · exact h3 (by rw [show t = s by omega])
        rw [z, Nat.add_zero, ← e2]
        refine ss_le _ fun u hu => ?_
        have wu := w1 _ (pA_mem (ps := R ++ Q) (i := u) (by omega))
        have ne := pA_ne M.gen.nd (u := u) (v := v) (by omega) hv
        rw [es] at ne ⊢
        refine Nat.le_trans (cnt_mono fun t _ h => ?_) (cnt_one (s := s) wu ne)
        rw [Bool.and_eq_true, Bool.and_eq_true] at h
        rw [Bool.and_eq_true]
        obtain ⟨h1, _, h3⟩ := h
        refine ⟨h1, decide_eq_true fun e => of_decide_eq_true h3 (by rw [e])⟩
    have c3 := cnt_any (l := List.range 40) (g := fun v t => (List.range v).any fun u => decide (dbl (pA (R ++ Q) u) (pA (R ++ Q) v) (qg t) = 0) && (decide (qg t ≠ pA (R ++ Q) u) && decide (qg t ≠ pA (R ++ Q) v))) (R ++ Q).length
    have c4 : ss (fun v => (List.range 40).countP fun t => (List.range v).any fun u => decide (dbl (pA (R ++ Q) u) (pA (R ++ Q) v) (qg t) = 0) && (decide (qg t ≠ pA (R ++ Q) u) && decide (qg t ≠ pA (R ++ Q) v))) (R ++ Q).length ≤ ss (fun v => if v < R.length then v * 2 else R.length * 1) (R ++ Q).length := by
      have mono : ∀ {F G : Nat → Nat} (n : Nat), (∀ i, i < n → F i ≤ G i) → ss F n ≤ ss G n := fun {F G} n => by
        induction n with
        | zero => intro _; exact Nat.le_refl _
        | succ n ih =>
          intro h
          have a := ih fun i hi => h i (by omega)
          have b := h n (by omega)
          show ss F n + F n ≤ ss G n + G n
          omega
      exact mono _ pr
    have c5 : ∀ r q : Nat, r + q ≤ 7 → 1 ≤ q → ss (fun v => if v < r then v * 2 else r * 1) (r + q) + q < 40 := by
      intro r q h1 h2
      have dec : ∀ r : Fin 7, ∀ q : Fin 8, r.val + q.val ≤ 7 → 1 ≤ q.val → ss (fun v => if v < r.val then v * 2 else r.val * 1) (r.val + q.val) + q.val < 40 := by decide +kernel
      exact dec ⟨r, by omega⟩ ⟨q, by omega⟩ h1 h2
    have c01 := Nat.le_trans c0 c1
    rw [all40] at c01
    have c6 := c5 R.length Q.length hl hQl
    rw [← m] at c6
    omega
end Ev
set_option Elab.async false
set_option linter.all false
set_option maxRecDepth 100000
set_option maxHeartbeats 4000000
set_option autoImplicit false
/-! Pl29: `_law_general` gives as many as are asked, up to 8. -/
namespace Ev
section
variable {C : Ctx} {tk pk gr tn : Nat} {s : List Int} {cs : List D}
def gK (s : List Int) (lo hi many size : Int) (e : Env) : Prop := ∃ cs ps s6 s7 s8 s9, e = gEn cs ps lo hi many size s6 s7 s8 s9 ∧ Row s cs ∧ Ps many ps ∧ (∀ p ∈ ps, Gd 9 p) ∧ SlOk s7 ∧ SlOk s8 ∧ SlOk s9
theorem gturn1E {lo hi many size i : Int} {e : Env} (hgr : GrdS C gr) (ht : TriS C tn) (hs : s.length ≤ 63) (hm : many ≤ 1000) (z0 : 0 ≤ size) (z1 : size ≤ 9) (h : gK s lo hi many size e) :
    ∃ e1 e2, bindT (.nm 6) (.int i) e = some e1 ∧ denS C (gB1 gr tn) e1 = .ok .nx e2 ∧ gK s lo hi many size e2 := by
  obtain ⟨cs, ps, s6, s7, s8, s9, rfl, hr, hp, h9', h7, h8, h9⟩ := h
  obtain ⟨x, y, c1, e1, r1, x1, y1⟩ := hgr s cs size hs hr z0 (by omega)
  have g9 : Gd 9 ⟨x, y, 1⟩ := ⟨rfl, x1.le (by omega), y1.le (by omega)⟩
  have gp : Gd 1600 ⟨x, y, 1⟩ := g9.le (by decide)
  have hl := hp.len
  obtain ⟨t9, e2, k9⟩ := gtail (cs := c1) (lo := lo) (hi := hi) (many := many) (size := size) (s6 := some (.val (.int i))) (s8 := s8) (s9 := s9) (gr := gr) (gB1 gr tn) rfl ht r1 hp.gd gp .val h8 h9 (by omega)
  refine ⟨gEn cs ps lo hi many size (some (.val (.int i))) s7 s8 s9, gEn c1 (gput ps ⟨x, y, 1⟩ many) lo hi many size (some (.val (.int i))) (some (.val (Pt.d ⟨x, y, 1⟩))) (some (.val (.bl (bad ps ⟨x, y, 1⟩ ps.length)))) t9, rfl, ?_, c1, gput ps ⟨x, y, 1⟩ many, _, _, _, t9, rfl, r1, hp.put gp, ?_, .val, .val, k9⟩
  · show denS C (drp (gB1 gr tn) 0) _ = _
    refine Eq.trans (step (B := gB1 gr tn) (i := 0) rfl (e' := gEn c1 ps lo hi many size (some (.val (.int i))) (some (.val (Pt.d ⟨x, y, 1⟩))) s8 s9) ?_) e2
    simp (config := { maxDischargeDepth := 20 }) only [runFn, denS, den, denL, List.map, List.replicate, List.length_cons, List.length_nil, R.bind, R.of, R.way, D.tr, D.truth, getV, getO, ioOk, argsOf, afterCall, putIo, Option.isSome, Option.map, Option.bind, bindT, List.set, endOf, List.cons_append, List.nil_append, List.getElem?_cons_zero, List.getElem?_cons_succ, mul_L, add_L, sub_L, L.mul, L.sub, L.add, x_lst, x_tup, x_fz, c_lt, c_le, c_gt, c_ge, c_eq, c_ne, c_eqB, c_neB, c_isNI, c_isNB, p_int, p_abs, p_isInt, p_isIntB, p_isBool, p_isBoolB, p_isTup, p_isLst, p_isLstT, p_isSeqT, p_isSeqL, p_isSeqI, p_isSeqB, p_isStrI, p_isStrB, Nat.reduceAdd, Nat.reduceSub, decide_true, decide_false, Bool.not_true, Bool.not_false, Bool.not_not, gB1, bodyOf, stm, fGeneral, gEn, e1]
  · intro q hq
    unfold gput at hq
    split at hq
    · rcases List.mem_append.mp hq with hq | hq
      · exact h9' q hq
      · rw [List.mem_singleton.mp hq]; exact g9
    · exact h9' q hq
def gL (s : List Int) (R : List Pt) (lo hi many size : Int) (j : Nat) (e : Env) : Prop := ∃ cs Q s6 s7 s8 s9, e = gEn cs (R ++ Q) lo hi many size s6 s7 s8 s9 ∧ Row s cs ∧ Ps many (R ++ Q) ∧ (∀ q ∈ Q, ∃ i, i < 40 ∧ q = qg i) ∧ SlOk s7 ∧ SlOk s8 ∧ SlOk s9 ∧ (((R ++ Q).length : Int) = many ∨ ∀ i, i < j → Cov (R ++ Q) i)
theorem gturn2E {R0 : List Pt} {lo hi many size : Int} {j : Nat} {e : Env} (hj : j < 40) (ht : TriS C tn) (hm : many ≤ 1000) (h : gL s R0 lo hi many size j e) :
    ∃ e1 e2, bindT (.nm 6) (.int (0 + j)) e = some e1 ∧ denS C (gB2 tn) e1 = .ok .nx e2 ∧ gL s R0 lo hi many size (j + 1) e2 := by
  obtain ⟨cs, Q, s6, s7, s8, s9, rfl, hr, hp, hQ, h7, h8, h9, hq⟩ := h
  have gp := qg_gd hj
  have hl := hp.len
  obtain ⟨t9, e2, k9⟩ := gtail (cs := cs) (lo := lo) (hi := hi) (many := many) (size := size) (s6 := some (.val (.int (0 + j)))) (s8 := s8) (s9 := s9) (gr := 0) (gB2 tn) rfl ht hr hp.gd gp .val h8 h9 (by omega)
  have run : denS C (gB2 tn) (gEn cs (R0 ++ Q) lo hi many size (some (.val (.int (0 + j)))) s7 s8 s9) = .ok .nx (gEn cs (gput (R0 ++ Q) (qg j) many) lo hi many size (some (.val (.int (0 + j)))) (some (.val (qg j).d)) (some (.val (.bl (bad (R0 ++ Q) (qg j) (R0 ++ Q).length)))) t9) := by
    show denS C (drp (gB2 tn) 0) _ = _
    refine Eq.trans (step (B := gB2 tn) (i := 0) rfl (e' := gEn cs (R0 ++ Q) lo hi many size (some (.val (.int (0 + j)))) (some (.val (qg j).d)) s8 s9) ?_) e2
    have l2 : L 12 (j : Int) := S64.of (by omega) 12
    simp (config := { maxDischargeDepth := 20 }) only [runFn, denS, den, denL, List.map, List.replicate, List.length_cons, List.length_nil, R.bind, R.of, R.way, D.tr, D.truth, getV, getO, ioOk, argsOf, afterCall, putIo, Option.isSome, Option.map, Option.bind, bindT, List.set, endOf, List.cons_append, List.nil_append, List.getElem?_cons_zero, List.getElem?_cons_succ, mul_L, add_L, sub_L, L.mul, L.sub, L.add, x_lst, x_tup, x_fz, c_lt, c_le, c_gt, c_ge, c_eq, c_ne, c_eqB, c_neB, c_isNI, c_isNB, p_int, p_abs, p_isInt, p_isIntB, p_isBool, p_isBoolB, p_isTup, p_isLst, p_isLstT, p_isSeqT, p_isSeqL, p_isSeqI, p_isSeqB, p_isStrI, p_isStrB, Nat.reduceAdd, Nat.reduceSub, decide_true, decide_false, Bool.not_true, Bool.not_false, Bool.not_not, gB2, bodyOf, stm, fGeneral, gEn, Int.zero_add, l2, lim3, Pt.d, qg, ↓reduceIte]
  have put := hp.put gp
  by_cases c : bad (R0 ++ Q) (qg j) (R0 ++ Q).length = false ∧ ((R0 ++ Q).length : Int) < many
  · have ep : gput (R0 ++ Q) (qg j) many = R0 ++ (Q ++ [qg j]) := by
      unfold gput
      rw [if_pos c, List.append_assoc]
    rw [ep] at run put
    refine ⟨_, _, rfl, run, cs, Q ++ [qg j], _, _, _, t9, rfl, hr, put, fun q hq => ?_, .val, .val, k9, ?_⟩
    · rcases List.mem_append.mp hq with hq | hq
      · exact hQ q hq
      · exact ⟨j, hj, List.mem_singleton.mp hq⟩
    · rcases hq with hq | hq
      · omega
      · refine .inr fun i hi => ?_
        by_cases z : i = j
        · rw [z]
          exact .inl (List.mem_append_right _ (List.mem_append_right _ (List.mem_singleton.mpr rfl)))
        · rw [← List.append_assoc]
          exact (hq i (by omega)).app
  · have ep : gput (R0 ++ Q) (qg j) many = R0 ++ Q := by
      unfold gput
      rw [if_neg c]
    rw [ep] at run put
    refine ⟨_, _, rfl, run, cs, Q, _, _, _, t9, rfl, hr, put, hQ, .val, .val, k9, ?_⟩
    rcases hq with hq | hq
    · exact .inl hq
    · by_cases lm : ((R0 ++ Q).length : Int) = many
      · exact .inl lm
      · have hb : bad (R0 ++ Q) (qg j) (R0 ++ Q).length = true := by
          cases z : bad (R0 ++ Q) (qg j) (R0 ++ Q).length with
          | true => rfl
          | false => exact absurd ⟨z, by omega⟩ c
        refine .inr fun i hi => ?_
        by_cases z : i = j
        · rw [z]; exact bad_cov hb
        · exact hq i (by omega)
theorem run_generalE {lo hi : Int} (htk : TakS C tk) (hpk : PicS C pk) (hgr : GrdS C gr) (ht : TriS C tn) (hs : s.length ≤ 63) (hr : Row s cs) (h0 : 1 ≤ lo) (h1 : lo ≤ hi) (h2 : hi ≤ 8) :
    ∃ ps cs', runFn C (fGeneral tk pk gr tn) [.own cs, .val (.int lo), .val (.int hi)] = .ok (.tup (lp ps)) cs' ∧ Row s cs' ∧ Gen ps ∧ (∀ p ∈ ps, Gd 1600 p) ∧ lo ≤ (ps.length : Int) ∧ (ps.length : Int) ≤ hi := by
  obtain ⟨v, c1, e1, r1, v0, v1⟩ := htk s cs (hi - lo + 1) hs hr (by omega) (by omega)
  obtain ⟨j, hj, c2, e2, r2⟩ := hpk s c1 [.int 4, .int 6, .int 9] hs r1 (by decide) (by decide)
  obtain ⟨size, ez, z0, z1⟩ : ∃ z : Int, [D.int 4, .int 6, .int 9][j] = .int z ∧ 0 ≤ z ∧ z ≤ 9 := by
    match j, hj with
    | 0, _ => exact ⟨4, rfl, by omega, by omega⟩
    | 1, _ => exact ⟨6, rfl, by omega, by omega⟩
    | 2, _ => exact ⟨9, rfl, by omega, by omega⟩
  rw [ez] at e2
  obtain ⟨e', q1, i1⟩ := for_all (t := .nm 6) (b := denS C (gB1 gr tn)) (ds := range_ 0 (3 * (lo + v)).toNat) (e := gEn c2 [] lo hi (lo + v) size none none none none) (fun _ e => gK s lo hi (lo + v) size e) ⟨c2, [], none, none, none, none, rfl, r2, ⟨by show (0 : Int) ≤ _; omega, .nil, fun q hq => by cases hq⟩, (fun q hq => by cases hq), .none, .none, .none⟩ (fun j d e hd hi => by
    obtain ⟨_, rfl⟩ := rng_some hd
    exact gturn1E hgr ht hs (by omega) z0 z1 hi)
  obtain ⟨c3, ps, s6, s7, s8, s9, rfl, r3, hp, gR, h7, h8, h9⟩ := i1
  obtain ⟨e'', q2, i2⟩ := for_all (t := .nm 6) (b := denS C (gB2 tn)) (ds := range_ 0 40) (e := gEn c3 ps lo hi (lo + v) size s6 s7 s8 s9) (fun j e => gL s ps lo hi (lo + v) size j e) ⟨c3, [], s6, s7, s8, s9, by rw [List.append_nil], r3, by rw [List.append_nil]; exact hp, (fun q hq => by cases hq), h7, h8, h9, .inr fun i hi => by omega⟩ (fun j d e hd hi => by
    obtain ⟨hj, rfl⟩ := rng_some hd
    exact gturn2E hj ht (by omega) hi)
  obtain ⟨c4, Q, t6, t7, t8, t9, rfl, r4, hq, gQ, _, _, _, hm⟩ := i2
  have l40 : (range_ 0 40).length = 40 := rng_len
  rw [l40] at hm
  have lm : ((ps ++ Q).length : Int) = lo + v := by
    rcases hm with hm | hm
    · exact hm
    · have := hq.len
      by_cases z : ((ps ++ Q).length : Int) = lo + v
      · exact z
      · exact (not_all ⟨gR, gQ, hq.gen⟩ (by rw [List.length_append] at this z; omega) hm).elim
  generalize ps ++ Q = qs at *
  have hql := hq.len
  refine ⟨qs, c4, ?_, r4, hq.gen, hq.gd, by omega, by omega⟩
  have k1 : denS C (stm (fGeneral tk pk gr tn).body 1) (gEn c2 [] lo hi (lo + v) size none none none none) = .ok .nx (gEn c3 ps lo hi (lo + v) size s6 s7 s8 s9) := by
    show denS C (.for_ (.nm 6) (.rng1 (.bin .mul (.lit (.int 3)) (.var 4))) (gB1 gr tn)) _ = _
    refine s_for (ds := range_ 0 (3 * (lo + v)).toNat) ?_ q1
    have la : L 12 3 := S64.of (by decide) 12
    have lb : L 12 (lo + v) := S64.of (by omega) 12
    have hr : rangeOk 0 (3 * (lo + v)) = true := by
      unfold rangeOk
      exact decide_eq_true (by omega)
    simp (config := { maxDischargeDepth := 20 }) only [runFn, denS, den, denL, List.map, List.replicate, List.length_cons, List.length_nil, R.bind, R.of, R.way, D.tr, D.truth, getV, getO, ioOk, argsOf, afterCall, putIo, Option.isSome, Option.map, Option.bind, bindT, List.set, endOf, List.cons_append, List.nil_append, List.getElem?_cons_zero, List.getElem?_cons_succ, mul_L, add_L, sub_L, L.mul, L.sub, L.add, x_lst, x_tup, x_fz, c_lt, c_le, c_gt, c_ge, c_eq, c_ne, c_eqB, c_neB, c_isNI, c_isNB, p_int, p_abs, p_isInt, p_isIntB, p_isBool, p_isBoolB, p_isTup, p_isLst, p_isLstT, p_isSeqT, p_isSeqL, p_isSeqI, p_isSeqB, p_isStrI, p_isStrB, Nat.reduceAdd, Nat.reduceSub, decide_true, decide_false, Bool.not_true, Bool.not_false, Bool.not_not, gEn, la, lb, hr, ↓reduceIte]
  have k2 : denS C (stm (fGeneral tk pk gr tn).body 2) (gEn c3 ps lo hi (lo + v) size s6 s7 s8 s9) = .ok .nx (gEn c4 qs lo hi (lo + v) size t6 t7 t8 t9) := by
    show denS C (.for_ (.nm 6) (.rng1 (.lit (.int 40))) (gB2 tn)) _ = _
    refine s_for (ds := range_ 0 40) ?_ q2
    have hr : rangeOk 0 40 = true := by decide
    simp (config := { maxDischargeDepth := 20 }) only [runFn, denS, den, denL, List.map, List.replicate, List.length_cons, List.length_nil, R.bind, R.of, R.way, D.tr, D.truth, getV, getO, ioOk, argsOf, afterCall, putIo, Option.isSome, Option.map, Option.bind, bindT, List.set, endOf, List.cons_append, List.nil_append, List.getElem?_cons_zero, List.getElem?_cons_succ, mul_L, add_L, sub_L, L.mul, L.sub, L.add, x_lst, x_tup, x_fz, c_lt, c_le, c_gt, c_ge, c_eq, c_ne, c_eqB, c_neB, c_isNI, c_isNB, p_int, p_abs, p_isInt, p_isIntB, p_isBool, p_isBoolB, p_isTup, p_isLst, p_isLstT, p_isSeqT, p_isSeqL, p_isSeqI, p_isSeqB, p_isStrI, p_isStrB, Nat.reduceAdd, Nat.reduceSub, decide_true, decide_false, Bool.not_true, Bool.not_false, Bool.not_not, gEn, hr, Int.reduceToNat, ↓reduceIte]
  have k : denS C (fGeneral tk pk gr tn).body [some (.own cs), some (.val (.int lo)), some (.val (.int hi)), none, none, none, none, none, none, none, none] = .ok (.rt (.tup (lp qs))) ((gEn c4 qs lo hi (lo + v) size t6 t7 t8 t9).set 3 (some (.val (.lst (lp qs))))) := by
    show denS C (drp (fGeneral tk pk gr tn).body 0) _ = _
    refine Eq.trans (step rfl (e' := gEn c2 [] lo hi (lo + v) size none none none none) ?_) ?_
    · simp (config := { maxDischargeDepth := 20 }) only [runFn, denS, den, denL, List.map, List.replicate, List.length_cons, List.length_nil, R.bind, R.of, R.way, D.tr, D.truth, getV, getO, ioOk, argsOf, afterCall, putIo, Option.isSome, Option.map, Option.bind, bindT, List.set, endOf, List.cons_append, List.nil_append, List.getElem?_cons_zero, List.getElem?_cons_succ, mul_L, add_L, sub_L, L.mul, L.sub, L.add, x_lst, x_tup, x_fz, c_lt, c_le, c_gt, c_ge, c_eq, c_ne, c_eqB, c_neB, c_isNI, c_isNB, p_int, p_abs, p_isInt, p_isIntB, p_isBool, p_isBoolB, p_isTup, p_isLst, p_isLstT, p_isSeqT, p_isSeqL, p_isSeqI, p_isSeqB, p_isStrI, p_isStrB, Nat.reduceAdd, Nat.reduceSub, decide_true, decide_false, Bool.not_true, Bool.not_false, Bool.not_not, stm, fGeneral, gEn, e1, e2, denRow, asL, slsOf, slOf, putRow, lim3, Nat.zero_le, ↓reduceIte]
    refine Eq.trans (step rfl k1) ?_
    refine Eq.trans (step rfl k2) ?_
    show denS C (.cons (.ret (.prim .tuple (.cons (.var 3) .nil))) .nil) _ = _
    rfl
  show (match denS C (fGeneral tk pk gr tn).body [some (.own cs), some (.val (.int lo)), some (.val (.int hi)), none, none, none, none, none, none, none, none] with
    | .ok .nx e' => endOf true .non e'
    | .ok (.rt d) e' => endOf true d e'
    | .ex x _ => .no
    | _ => O.no) = _
  rw [k]
  rfl
end
end Ev
set_option Elab.async false
set_option linter.all false
set_option maxRecDepth 100000
set_option maxHeartbeats 4000000
set_option autoImplicit false
/-! Pl30: the def that finds a point of each list whose line halves both. -/
namespace Ev
/-! ### loops that may return -/
theorem for_hit {t : Tg} {b : Env → R Fl} (I : Env → Prop) (Q : D → Prop) (hit : D → Bool) : ∀ (ds : List D) (e : Env), I e → (∀ d ∈ ds, ∀ e, I e → ∃ e1, bindT t d e = some e1 ∧ (hit d = true → ∃ r e2, b e1 = .ok (.rt r) e2 ∧ Q r) ∧ (hit d = false → ∃ e2, b e1 = .ok .nx e2 ∧ I e2)) →
    (ds.any hit = true → ∃ r e', loopF t b ds e = .ok (.rt r) e' ∧ Q r) ∧ (ds.any hit = false → ∃ e', loopF t b ds e = .ok .nx e' ∧ I e')
  | [], e, h, _ => ⟨(fun z => by cases z), fun _ => ⟨e, rfl, h⟩⟩
  | d :: ds, e, h, st => by
    obtain ⟨e1, h1, h2, h3⟩ := st d List.mem_cons_self e h
    cases z : hit d with
    | true =>
      obtain ⟨r, e2, q1, q2⟩ := h2 z
      refine ⟨fun _ => ⟨r, e2, ?_, q2⟩, fun y => by rw [List.any_cons, z] at y; cases y⟩
      unfold loopF
      rw [h1]
      show (b e1).bind _ = _
      rw [q1]
      rfl
    | false =>
      obtain ⟨e2, q1, q2⟩ := h3 z
      have ih := for_hit (t := t) (b := b) I Q hit ds e2 q2 fun d hd => st d (List.mem_cons_of_mem _ hd)
      have ex : loopF t b (d :: ds) e = loopF t b ds e2 := by
        conv => lhs; unfold loopF
        rw [h1]
        show (b e1).bind _ = _
        rw [q1]
        rfl
      rw [ex, List.any_cons, z, Bool.false_or]
      exact ih
theorem s_forR {C : Ctx} {t : Tg} {src : Ex} {b : Sm} {e e' : Env} {ds : List D} {r : D} (h : denL C src e = .ok ds e) (k : loopF t (denS C b) ds e = .ok (.rt r) e') : denS C (.for_ t src b) e = .ok (.rt r) e' := by
  simp only [denS]
  rw [h]
  exact k
theorem s_lastR {C : Ctx} {s : Sm} {ss : Sm} {e e' : Env} {r : D} (h : denS C s e = .ok (.rt r) e') : denS C (.cons s ss) e = .ok (.rt r) e' := by
  simp only [denS]
  rw [h]
  rfl
/-! ### the others -/
def oth (ps : List Pt) (a b : Pt) : List Pt := ps.filter fun p => decide (p ∉ [a, b])
def isH (ps : List Pt) (a b : Pt) : Bool := decide (2 * Lc (oth ps a b) a b = (oth ps a b).length)
def fIsHalved (lf : Nat) : Fn := ⟨3, 5, false, (.cons (.asg (.nm 3) (.lc [4] (.nm 4) (.items (.var 0)) (.cmp .nmem (.var 4) (.tup (.cons (.var 1) (.cons (.var 2) .nil)))) (.var 4))) (.cons (.ret (.cmp .eq (.bin .mul (.lit (.int 2)) (.prim .len (.cons (.call lf none (.cons (.var 3) (.cons (.var 1) (.cons (.var 2) .nil)))) .nil))) (.prim .len (.cons (.var 3) .nil)))) .nil))⟩
def fBoth (np tu ih : Nat) : Fn := ⟨2, 9, false, (.cons (.exp (.call np none (.cons (.var 0) .nil))) (.cons (.exp (.call np none (.cons (.var 1) .nil))) (.cons (.ite (.or (.cmp .eq (.bin .mod (.prim .len (.cons (.var 0) .nil)) (.lit (.int 2))) (.lit (.int 0))) (.or (.cmp .eq (.bin .mod (.prim .len (.cons (.var 1) .nil)) (.lit (.int 2))) (.lit (.int 0))) (.cmp .ne (.lc [8] (.nm 8) (.items (.var 0)) (.cmp .mem (.var 8) (.var 1)) (.var 8)) (.lst .nil)))) (.cons .never .nil) .nil) (.cons (.asg (.nm 2) (.bin .add (.var 0) (.var 1))) (.cons (.for_ (.nm 3) (.rng1 (.prim .len (.cons (.var 2) .nil))) (.cons (.for_ (.nm 4) (.rng1 (.var 3)) (.cons (.for_ (.nm 5) (.rng1 (.var 4)) (.cons (.ite (.cmp .eq (.call tu none (.cons (.ix (.var 2) (.var 3)) (.cons (.ix (.var 2) (.var 4)) (.cons (.ix (.var 2) (.var 5)) .nil)))) (.lit (.int 0))) (.cons .never .nil) .nil) .nil)) .nil)) .nil)) (.cons (.for_ (.nm 6) (.rng1 (.prim .len (.cons (.var 0) .nil))) (.cons (.for_ (.nm 7) (.rng1 (.prim .len (.cons (.var 1) .nil))) (.cons (.ite (.and (.call ih none (.cons (.var 0) (.cons (.ix (.var 0) (.var 6)) (.cons (.ix (.var 1) (.var 7)) .nil)))) (.call ih none (.cons (.var 1) (.cons (.ix (.var 0) (.var 6)) (.cons (.ix (.var 1) (.var 7)) .nil))))) (.cons (.ret (.tup (.cons (.var 6) (.cons (.var 7) .nil)))) .nil) .nil) .nil)) .nil)) (.cons (.ret (.lit .non)) .nil)))))))⟩
def LfL (C : Ctx) (f : Nat) : Prop := ∀ (ps : List Pt) (a b : Pt), (∀ p ∈ ps, Good p) → Good a → Good b → ps.length ≤ 40 → C.call f [.val (.lst (lp ps)), .val a.d, .val b.d] = .ok (.lst ((lix ps a b).map fun k => D.int (k : Nat))) []
def HlfS (C : Ctx) (f : Nat) : Prop := ∀ (ps : List Pt) (a b : Pt), (∀ p ∈ ps, Good p) → Good a → Good b → ps.length ≤ 40 → C.call f [.val (.tup (lp ps)), .val a.d, .val b.d] = .ok (.bl (isH ps a b)) []
section
variable {C : Ctx} {tn lf np tu ih : Nat} {ps : List Pt} {a b : Pt}
theorem run_leftsL (ht : TrnS C tn) (hp : ∀ p ∈ ps, Good p) (ha : Good a) (hb : Good b) (h2 : ps.length ≤ 40) : runFn C (fLefts tn) [.val (.lst (lp ps)), .val a.d, .val b.d] = .ok (.lst ((lix ps a b).map fun k => D.int (k : Nat))) [] := by
  have q2 := len_pts (ps := ps) (by omega)
  have e : ((lix ps a b).map fun k => D.int (k : Nat)) = ((range_ 0 ps.length).filter fun d => match d with
      | .int k => (ps[k.toNat]?).any fun p => decide (0 < dbl a b p)
      | _ => false).map id := by
    rw [List.map_id, rng_map, List.filter_map]
    unfold lix
    have e1 : ((fun d => match d with
        | D.int k => (ps[k.toNat]?).any fun p => decide (0 < dbl a b p)
        | _ => false) ∘ fun (j : Nat) => D.int (0 + (j : Int))) = fun k => (ps[k]?).any fun p => decide (0 < dbl a b p) := by
      funext j
      show ((ps[((0 : Int) + j).toNat]?).any fun p => decide (0 < dbl a b p)) = _
      rw [at_int, Int.toNat_natCast]
    rw [e1]
    exact congrArg (fun f => List.map f ((List.range ps.length).filter fun k => (ps[k]?).any fun p => decide (0 < dbl a b p))) (funext fun j => by rw [at_int])
  rw [e]
  refine (run_rt (s_ret (lc_nm (ds := range_ 0 ps.length) ?_ rfl (fun d hd => ?_) (fun d hd _ => ?_) (by rw [rng_len]; exact Nat.le_trans h2 (by decide))))).trans rfl
  · refine d_rng ?_ (by omega)
    simp (config := { maxDischargeDepth := 20 }) only [runFn, denS, den, denL, List.map, List.replicate, List.length_cons, List.length_nil, R.bind, R.of, R.way, D.tr, D.truth, getV, getO, ioOk, argsOf, afterCall, putIo, Option.isSome, Option.map, Option.bind, bindT, List.set, endOf, List.cons_append, List.nil_append, List.getElem?_cons_zero, List.getElem?_cons_succ, mul_L, add_L, sub_L, L.mul, L.sub, L.add, x_lst, x_tup, x_fz, c_lt, c_le, c_gt, c_ge, c_eq, c_ne, c_eqB, c_neB, c_isNI, c_isNB, p_int, p_abs, p_isInt, p_isIntB, p_isBool, p_isBoolB, p_isTup, p_isLst, p_isLstT, p_isSeqT, p_isSeqL, p_isSeqI, p_isSeqB, p_isStrI, p_isStrB, Nat.reduceAdd, Nat.reduceSub, decide_true, decide_false, Bool.not_true, Bool.not_false, Bool.not_not, List.replicate, fLefts, q2]
  · obtain ⟨j, hj⟩ := List.mem_iff_getElem?.mp hd
    obtain ⟨hl, rfl⟩ := rng_some hj
    rw [at_int]
    have hrj : ps[j]? = some ps[j] := List.getElem?_eq_getElem hl
    have aj := at_pt hrj
    have mj := List.mem_of_getElem? hrj
    have e2 : (match D.int (j : Int) with
      | .int k => (ps[k.toNat]?).any fun p => decide (0 < dbl a b p)
      | _ => false) = (ps[j]?).any fun p => decide (0 < dbl a b p) := rfl
    rw [e2, hrj]
    generalize ps[j] = r at *
    have q := ht a b r ha.sz hb.sz (hp r mj).sz ha.wne
    have z := sgnp (dbl a b r)
    show _ = R.ok (D.bl (decide (0 < dbl a b r))) _
    simp (config := { maxDischargeDepth := 20 }) only [runFn, denS, den, denL, List.map, List.replicate, List.length_cons, List.length_nil, R.bind, R.of, R.way, D.tr, D.truth, getV, getO, ioOk, argsOf, afterCall, putIo, Option.isSome, Option.map, Option.bind, bindT, List.set, endOf, List.cons_append, List.nil_append, List.getElem?_cons_zero, List.getElem?_cons_succ, mul_L, add_L, sub_L, L.mul, L.sub, L.add, x_lst, x_tup, x_fz, c_lt, c_le, c_gt, c_ge, c_eq, c_ne, c_eqB, c_neB, c_isNI, c_isNB, p_int, p_abs, p_isInt, p_isIntB, p_isBool, p_isBoolB, p_isTup, p_isLst, p_isLstT, p_isSeqT, p_isSeqL, p_isSeqI, p_isSeqB, p_isStrI, p_isStrB, Nat.reduceAdd, Nat.reduceSub, decide_true, decide_false, Bool.not_true, Bool.not_false, Bool.not_not, List.replicate, fLefts, aj, q, z]
  · obtain ⟨j, hj⟩ := List.mem_iff_getElem?.mp hd
    obtain ⟨hl, rfl⟩ := rng_some hj
    rfl
theorem run_halved (hl : LfL C lf) (hp : ∀ p ∈ ps, Good p) (ha : Good a) (hb : Good b) (h2 : ps.length ≤ 40) : runFn C (fIsHalved lf) [.val (.tup (lp ps)), .val a.d, .val b.d] = .ok (.bl (isH ps a b)) [] := by
  have lo : (oth ps a b).length ≤ 40 := Nat.le_trans (List.length_filter_le _ _) h2
  have q := hl (oth ps a b) a b (fun p h => hp p (List.mem_filter.mp h).1) ha hb lo
  have ql := p_lix (ps := oth ps a b) (a := a) (b := b) (Nat.le_trans lix_le (by omega))
  have q2 := len_pts (ps := oth ps a b) (by omega)
  have ll : Lc (oth ps a b) a b ≤ (oth ps a b).length := List.length_filter_le _ _
  have ee : lp (oth ps a b) = ((lp ps).filter fun d => match d with
      | .tup [.int x, .int y, .int w] => decide ((⟨x, y, w⟩ : Pt) ∉ [a, b])
      | _ => false).map id := by
    rw [List.map_id, List.filter_map]
    rfl
  have lc : den C (.lc [4] (.nm 4) (.items (.var 0)) (.cmp .nmem (.var 4) (.tup (.cons (.var 1) (.cons (.var 2) .nil)))) (.var 4)) [some (.val (.tup (lp ps))), some (.val a.d), some (.val b.d), none, none] = .ok (.lst (lp (oth ps a b))) [some (.val (.tup (lp ps))), some (.val a.d), some (.val b.d), none, none] := by
    rw [ee]
    refine lc_nm (ds := lp ps) rfl rfl (fun d hd => ?_) (fun d hd _ => rfl) (by rw [List.length_map]; exact Nat.le_trans h2 (by decide))
    obtain ⟨p, hp', rfl⟩ := List.mem_map.mp hd
    have cm := c_nmemT (p := p) (ps := [a, b])
    have en : (!decide (p ∈ [a, b])) = decide (p ∉ [a, b]) := by
      by_cases z : p ∈ [a, b]
      · simp [z]
      · simp [z]
    show ((den C (.tup (.cons (.var 1) (.cons (.var 2) .nil))) [some (.val (.tup (lp ps))), some (.val a.d), some (.val b.d), none, some (.val p.d)]).bind fun y e => R.of ((cmpop .nmem p.d y).map D.bl) e) = _
    have e1 : den C (.tup (.cons (.var 1) (.cons (.var 2) .nil))) [some (.val (.tup (lp ps))), some (.val a.d), some (.val b.d), none, some (.val p.d)] = .ok (.tup (lp [a, b])) [some (.val (.tup (lp ps))), some (.val a.d), some (.val b.d), none, some (.val p.d)] := by
      simp (config := { maxDischargeDepth := 20 }) only [runFn, denS, den, denL, List.map, List.replicate, List.length_cons, List.length_nil, R.bind, R.of, R.way, D.tr, D.truth, getV, getO, ioOk, argsOf, afterCall, putIo, Option.isSome, Option.map, Option.bind, bindT, List.set, endOf, List.cons_append, List.nil_append, List.getElem?_cons_zero, List.getElem?_cons_succ, mul_L, add_L, sub_L, L.mul, L.sub, L.add, x_lst, x_tup, x_fz, c_lt, c_le, c_gt, c_ge, c_eq, c_ne, c_eqB, c_neB, c_isNI, c_isNB, p_int, p_abs, p_isInt, p_isIntB, p_isBool, p_isBoolB, p_isTup, p_isLst, p_isLstT, p_isSeqT, p_isSeqL, p_isSeqI, p_isSeqB, p_isStrI, p_isStrB, Nat.reduceAdd, Nat.reduceSub, decide_true, decide_false, Bool.not_true, Bool.not_false, Bool.not_not, lim2, ↓reduceIte]
    rw [e1]
    show R.of ((cmpop .nmem p.d (.tup (lp [a, b]))).map D.bl) _ = _
    rw [cm, en]
    rfl
  have la : L 12 2 := S64.of (by decide) 12
  have lb : L 12 ((Lc (oth ps a b) a b : Nat) : Int) := S64.of (by omega) 12
  have dz : decide ((2 : Int) * ((Lc (oth ps a b) a b : Nat) : Int) = ((oth ps a b).length : Int)) = isH ps a b := by
    unfold isH
    by_cases c : 2 * Lc (oth ps a b) a b = (oth ps a b).length
    · rw [decide_eq_true c]; exact decide_eq_true (by omega)
    · rw [decide_eq_false c]; exact decide_eq_false (by omega)
  have k : denS C (fIsHalved lf).body [some (.val (.tup (lp ps))), some (.val a.d), some (.val b.d), none, none] = .ok (.rt (.bl (isH ps a b))) [some (.val (.tup (lp ps))), some (.val a.d), some (.val b.d), some (.val (.lst (lp (oth ps a b)))), none] := by
    show denS C (drp (fIsHalved lf).body 0) _ = _
    refine Eq.trans (step rfl (e' := [some (.val (.tup (lp ps))), some (.val a.d), some (.val b.d), some (.val (.lst (lp (oth ps a b)))), none]) ?_) ?_
    · show ((den C (.lc [4] (.nm 4) (.items (.var 0)) (.cmp .nmem (.var 4) (.tup (.cons (.var 1) (.cons (.var 2) .nil)))) (.var 4)) _).bind fun d e => match bindT (.nm 3) d e with
        | some e => R.ok Fl.nx e
        | none => .no) = _
      rw [lc]
      rfl
    · generalize oth ps a b = os at *
      generalize isH ps a b = bb at *
      simp (config := { maxDischargeDepth := 20 }) only [runFn, denS, den, denL, List.map, List.replicate, List.length_cons, List.length_nil, R.bind, R.of, R.way, D.tr, D.truth, getV, getO, ioOk, argsOf, afterCall, putIo, Option.isSome, Option.map, Option.bind, bindT, List.set, endOf, List.cons_append, List.nil_append, List.getElem?_cons_zero, List.getElem?_cons_succ, mul_L, add_L, sub_L, L.mul, L.sub, L.add, x_lst, x_tup, x_fz, c_lt, c_le, c_gt, c_ge, c_eq, c_ne, c_eqB, c_neB, c_isNI, c_isNB, p_int, p_abs, p_isInt, p_isIntB, p_isBool, p_isBoolB, p_isTup, p_isLst, p_isLstT, p_isSeqT, p_isSeqL, p_isSeqI, p_isSeqB, p_isStrI, p_isStrB, Nat.reduceAdd, Nat.reduceSub, decide_true, decide_false, Bool.not_true, Bool.not_false, Bool.not_not, drp, fIsHalved, q, ql, q2, la, lb, dz]
  exact (run_rt k).trans rfl
/-! ### both -/
theorem Oks.sub {qs : List Pt} (h : Oks ps) (nd : qs.Nodup) (hs : ∀ a ∈ qs, a ∈ ps) : Oks qs := ⟨⟨nd, fun a ha b hb c hc => h.gen.g a (hs a ha) b (hs b hb) c (hs c hc)⟩, fun p hp => h.gd p (hs p hp)⟩
def bo1 (tu : Nat) : Sm := bodyOf (stm (fBoth 0 tu 0).body 4)
def bo2 (tu : Nat) : Sm := bodyOf (stm (bo1 tu) 0)
def bo3 (tu : Nat) : Sm := bodyOf (stm (bo2 tu) 0)
theorem bo1_a (tu : Nat) : bo1 tu = .cons (.for_ (.nm 4) (.rng1 (.var 3)) (bo2 tu)) .nil := rfl
theorem bo2_a (tu : Nat) : bo2 tu = .cons (.for_ (.nm 5) (.rng1 (.var 4)) (bo3 tu)) .nil := rfl
def bE (R B ev : List Pt) (s3 s4 s5 s6 s7 : Option Sl) : Env := [some (.val (.tup (lp R))), some (.val (.tup (lp B))), some (.val (.tup (lp ev))), s3, s4, s5, s6, s7, none]
variable {Rd Bl : List Pt}
theorem bo_in3 (ht : TrnS C tu) (hp : Oks ps) (h2 : ps.length ≤ 40) (i j : Nat) (hi : i < ps.length) (hj : j < i) (s5 : Option Sl) : ∃ s5', denS C (.for_ (.nm 5) (.rng1 (.var 4)) (bo3 tu)) (bE Rd Bl ps (some (.val (.int i))) (some (.val (.int j))) s5 none none) = .ok .nx (bE Rd Bl ps (some (.val (.int i))) (some (.val (.int j))) s5' none none) := by
  have st : ∀ (k : Nat), k < j → denS C (bo3 tu) (bE Rd Bl ps (some (.val (.int i))) (some (.val (.int j))) (some (.val (.int k))) none none) = .ok .nx (bE Rd Bl ps (some (.val (.int i))) (some (.val (.int j))) (some (.val (.int k))) none none) := by
    intro k hk
    have hri : ps[i]? = some ps[i] := List.getElem?_eq_getElem hi
    have hrj : ps[j]? = some (ps[j]'(by omega)) := List.getElem?_eq_getElem (by omega)
    have hrk : ps[k]? = some (ps[k]'(by omega)) := List.getElem?_eq_getElem (by omega)
    have ai := at_pt hri
    have aj := at_pt hrj
    have ak := at_pt hrk
    have n1 := (nd_ne hp.gen.nd hj hrj hri).symm
    have n2 := (nd_ne hp.gen.nd (by omega) hrk hri).symm
    have n3 := (nd_ne hp.gen.nd hk hrk hrj).symm
    have mi := List.mem_of_getElem? hri
    have mj := List.mem_of_getElem? hrj
    have mk := List.mem_of_getElem? hrk
    generalize ps[i] = a at *
    generalize ps[j]'(by omega) = b at *
    generalize ps[k]'(by omega) = c at *
    have q := ht a b c (hp.gd a mi).sz (hp.gd b mj).sz (hp.gd c mk).sz (hp.gd a mi).wne
    have z := sgn0 (hp.gen.g a mi b mj c mk n1 n2 n3)
    simp (config := { maxDischargeDepth := 20 }) only [runFn, denS, den, denL, List.map, List.replicate, List.length_cons, List.length_nil, R.bind, R.of, R.way, D.tr, D.truth, getV, getO, ioOk, argsOf, afterCall, putIo, Option.isSome, Option.map, Option.bind, bindT, List.set, endOf, List.cons_append, List.nil_append, List.getElem?_cons_zero, List.getElem?_cons_succ, mul_L, add_L, sub_L, L.mul, L.sub, L.add, x_lst, x_tup, x_fz, c_lt, c_le, c_gt, c_ge, c_eq, c_ne, c_eqB, c_neB, c_isNI, c_isNB, p_int, p_abs, p_isInt, p_isIntB, p_isBool, p_isBoolB, p_isTup, p_isLst, p_isLstT, p_isSeqT, p_isSeqL, p_isSeqI, p_isSeqB, p_isStrI, p_isStrB, Nat.reduceAdd, Nat.reduceSub, decide_true, decide_false, Bool.not_true, Bool.not_false, Bool.not_not, bo3, bo2, bo1, bodyOf, stm, fBoth, bE, ai, aj, ak, q, z]
  obtain ⟨e', k, s, rfl⟩ := for_all (t := .nm 5) (b := denS C (bo3 tu)) (ds := range_ 0 j) (e := bE Rd Bl ps (some (.val (.int i))) (some (.val (.int j))) s5 none none) (fun _ e => ∃ s, e = bE Rd Bl ps (some (.val (.int i))) (some (.val (.int j))) s none none) ⟨s5, rfl⟩ (fun k d e hd hI => by
    obtain ⟨hk, rfl⟩ := rng_some hd
    obtain ⟨s, rfl⟩ := hI
    rw [at_int]
    exact ⟨_, _, rfl, st k hk, _, rfl⟩)
  exact ⟨s, s_for (ds := range_ 0 j) (d_rng rfl (by omega)) k⟩
theorem bo_in2 (ht : TrnS C tu) (hp : Oks ps) (h2 : ps.length ≤ 40) (i : Nat) (hi : i < ps.length) (s4 s5 : Option Sl) : ∃ s4' s5', denS C (bo1 tu) (bE Rd Bl ps (some (.val (.int i))) s4 s5 none none) = .ok .nx (bE Rd Bl ps (some (.val (.int i))) s4' s5' none none) := by
  obtain ⟨e', k, s4', s5', rfl⟩ := for_all (t := .nm 4) (b := denS C (bo2 tu)) (ds := range_ 0 i) (e := bE Rd Bl ps (some (.val (.int i))) s4 s5 none none) (fun _ e => ∃ s4 s5, e = bE Rd Bl ps (some (.val (.int i))) s4 s5 none none) ⟨s4, s5, rfl⟩ (fun k d e hd hI => by
    obtain ⟨hk, rfl⟩ := rng_some hd
    obtain ⟨s4, s5, rfl⟩ := hI
    obtain ⟨s5', q⟩ := bo_in3 (Rd := Rd) (Bl := Bl) ht hp h2 i k hi hk s5
    rw [at_int]
    refine ⟨_, bE Rd Bl ps (some (.val (.int i))) (some (.val (.int k))) s5' none none, rfl, ?_, _, _, rfl⟩
    rw [bo2_a]
    exact s_last q)
  refine ⟨s4', s5', ?_⟩
  rw [bo1_a]
  exact s_last (s_for (ds := range_ 0 i) (d_rng rfl (by omega)) k)
/-- what it returns: indexes of a red and a blue point -/
def BothQ (Rd Bl : List Pt) (r : D) : Prop := ∃ (i j : Nat) (p q : Pt), r = pd i j ∧ Rd[i]? = some p ∧ Bl[j]? = some q ∧ isH Rd p q = true ∧ isH Bl p q = true
def hit2 (Rd Bl : List Pt) (p : Pt) : D → Bool
  | .int j => (Bl[j.toNat]?).any fun q => isH Rd p q && isH Bl p q
  | _ => false
def hit1 (Rd Bl : List Pt) : D → Bool
  | .int i => (Rd[i.toNat]?).any fun p => (range_ 0 Bl.length).any (hit2 Rd Bl p)
  | _ => false
def bo5 (ih : Nat) : Sm := bodyOf (stm (fBoth 0 0 ih).body 5)
def bo6 (ih : Nat) : Sm := bodyOf (stm (bo5 ih) 0)
theorem bo5_a (ih : Nat) : bo5 ih = .cons (.for_ (.nm 7) (.rng1 (.prim .len (.cons (.var 1) .nil))) (bo6 ih)) .nil := rfl
theorem bo_last {ev : List Pt} {s3 s4 s5 s6 s7 : Option Sl} (hh : HlfS C ih) (hR : ∀ p ∈ Rd, Good p) (hB : ∀ p ∈ Bl, Good p) (l1 : Rd.length ≤ 40) (l2 : Bl.length ≤ 40) (ex : ∃ r ∈ Rd, ∃ b ∈ Bl, isH Rd r b = true ∧ isH Bl r b = true) :
    ∃ r e', denS C (.for_ (.nm 6) (.rng1 (.prim .len (.cons (.var 0) .nil))) (bo5 ih)) (bE Rd Bl ev s3 s4 s5 s6 s7) = .ok (.rt r) e' ∧ BothQ Rd Bl r := by
  have qR := len_ptsT (ps := Rd) (by omega)
  have qB := len_ptsT (ps := Bl) (by omega)
  have main := for_hit (t := .nm 6) (b := denS C (bo5 ih)) (fun e => ∃ s6 s7, e = bE Rd Bl ev s3 s4 s5 s6 s7) (BothQ Rd Bl) (hit1 Rd Bl) (range_ 0 Rd.length) (bE Rd Bl ev s3 s4 s5 s6 s7) ⟨s6, s7, rfl⟩ (fun d hd e hI => by
    obtain ⟨s6, s7, rfl⟩ := hI
    obtain ⟨i, hi⟩ := List.mem_iff_getElem?.mp hd
    obtain ⟨hl, rfl⟩ := rng_some hi
    rw [at_int]
    have hr : Rd[i]? = some Rd[i] := List.getElem?_eq_getElem hl
    have ai := at_pt hr
    have mi := List.mem_of_getElem? hr
    have h1 : hit1 Rd Bl (.int (i : Int)) = (range_ 0 Bl.length).any (hit2 Rd Bl Rd[i]) := by
      show (Rd[(i : Int).toNat]?).any _ = _
      rw [Int.toNat_natCast, hr]
      rfl
    rw [h1]
    generalize Rd[i] = p at *
    refine ⟨bE Rd Bl ev s3 s4 s5 (some (.val (.int (i : Nat)))) s7, rfl, ?_⟩
    have inner := for_hit (t := .nm 7) (b := denS C (bo6 ih)) (fun e => ∃ s7, e = bE Rd Bl ev s3 s4 s5 (some (.val (.int (i : Nat)))) s7) (BothQ Rd Bl) (hit2 Rd Bl p) (range_ 0 Bl.length) (bE Rd Bl ev s3 s4 s5 (some (.val (.int (i : Nat)))) s7) ⟨s7, rfl⟩ (fun d hd e hI => by
      obtain ⟨s7, rfl⟩ := hI
      obtain ⟨j, hj⟩ := List.mem_iff_getElem?.mp hd
      obtain ⟨hlj, rfl⟩ := rng_some hj
      rw [at_int]
      have hrj : Bl[j]? = some Bl[j] := List.getElem?_eq_getElem hlj
      have aj := at_pt hrj
      have mj := List.mem_of_getElem? hrj
      have h2 : hit2 Rd Bl p (.int (j : Int)) = (isH Rd p Bl[j] && isH Bl p Bl[j]) := by
        show (Bl[(j : Int).toNat]?).any _ = _
        rw [Int.toNat_natCast, hrj]
        rfl
      rw [h2]
      generalize Bl[j] = q at *
      have c1 := hh Rd p q hR (hR p mi) (hB q mj) l1
      have c2 := hh Bl p q hB (hR p mi) (hB q mj) l2
      refine ⟨bE Rd Bl ev s3 s4 s5 (some (.val (.int (i : Nat)))) (some (.val (.int (j : Nat)))), rfl, fun hit => ?_, fun hit => ?_⟩
      · rw [Bool.and_eq_true] at hit
        obtain ⟨t1, t2⟩ := hit
        refine ⟨pd i j, bE Rd Bl ev s3 s4 s5 (some (.val (.int (i : Nat)))) (some (.val (.int (j : Nat)))), ?_, i, j, p, q, rfl, hr, hrj, t1, t2⟩
        rw [t1] at c1
        rw [t2] at c2
        simp (config := { maxDischargeDepth := 20 }) only [runFn, denS, den, denL, List.map, List.replicate, List.length_cons, List.length_nil, R.bind, R.of, R.way, D.tr, D.truth, getV, getO, ioOk, argsOf, afterCall, putIo, Option.isSome, Option.map, Option.bind, bindT, List.set, endOf, List.cons_append, List.nil_append, List.getElem?_cons_zero, List.getElem?_cons_succ, mul_L, add_L, sub_L, L.mul, L.sub, L.add, x_lst, x_tup, x_fz, c_lt, c_le, c_gt, c_ge, c_eq, c_ne, c_eqB, c_neB, c_isNI, c_isNB, p_int, p_abs, p_isInt, p_isIntB, p_isBool, p_isBoolB, p_isTup, p_isLst, p_isLstT, p_isSeqT, p_isSeqL, p_isSeqI, p_isSeqB, p_isStrI, p_isStrB, Nat.reduceAdd, Nat.reduceSub, decide_true, decide_false, Bool.not_true, Bool.not_false, Bool.not_not, bo6, bo5, bodyOf, stm, fBoth, bE, ai, aj, c1, c2, lim2, pd, ↓reduceIte]
      · refine ⟨bE Rd Bl ev s3 s4 s5 (some (.val (.int (i : Nat)))) (some (.val (.int (j : Nat)))), ?_, _, rfl⟩
        cases t1 : isH Rd p q with
        | false =>
          rw [t1] at c1
          simp (config := { maxDischargeDepth := 20 }) only [runFn, denS, den, denL, List.map, List.replicate, List.length_cons, List.length_nil, R.bind, R.of, R.way, D.tr, D.truth, getV, getO, ioOk, argsOf, afterCall, putIo, Option.isSome, Option.map, Option.bind, bindT, List.set, endOf, List.cons_append, List.nil_append, List.getElem?_cons_zero, List.getElem?_cons_succ, mul_L, add_L, sub_L, L.mul, L.sub, L.add, x_lst, x_tup, x_fz, c_lt, c_le, c_gt, c_ge, c_eq, c_ne, c_eqB, c_neB, c_isNI, c_isNB, p_int, p_abs, p_isInt, p_isIntB, p_isBool, p_isBoolB, p_isTup, p_isLst, p_isLstT, p_isSeqT, p_isSeqL, p_isSeqI, p_isSeqB, p_isStrI, p_isStrB, Nat.reduceAdd, Nat.reduceSub, decide_true, decide_false, Bool.not_true, Bool.not_false, Bool.not_not, bo6, bo5, bodyOf, stm, fBoth, bE, ai, aj, c1]
        | true =>
          rw [t1, Bool.true_and] at hit
          rw [t1] at c1
          rw [hit] at c2
          simp (config := { maxDischargeDepth := 20 }) only [runFn, denS, den, denL, List.map, List.replicate, List.length_cons, List.length_nil, R.bind, R.of, R.way, D.tr, D.truth, getV, getO, ioOk, argsOf, afterCall, putIo, Option.isSome, Option.map, Option.bind, bindT, List.set, endOf, List.cons_append, List.nil_append, List.getElem?_cons_zero, List.getElem?_cons_succ, mul_L, add_L, sub_L, L.mul, L.sub, L.add, x_lst, x_tup, x_fz, c_lt, c_le, c_gt, c_ge, c_eq, c_ne, c_eqB, c_neB, c_isNI, c_isNB, p_int, p_abs, p_isInt, p_isIntB, p_isBool, p_isBoolB, p_isTup, p_isLst, p_isLstT, p_isSeqT, p_isSeqL, p_isSeqI, p_isSeqB, p_isStrI, p_isStrB, Nat.reduceAdd, Nat.reduceSub, decide_true, decide_false, Bool.not_true, Bool.not_false, Bool.not_not, bo6, bo5, bodyOf, stm, fBoth, bE, ai, aj, c1, c2])
    have src : denL C (.rng1 (.prim .len (.cons (.var 1) .nil))) (bE Rd Bl ev s3 s4 s5 (some (.val (.int (i : Nat)))) s7) = .ok (range_ 0 Bl.length) (bE Rd Bl ev s3 s4 s5 (some (.val (.int (i : Nat)))) s7) := by
      refine d_rng ?_ (by omega)
      unfold bE
      simp (config := { maxDischargeDepth := 20 }) only [runFn, denS, den, denL, List.map, List.replicate, List.length_cons, List.length_nil, R.bind, R.of, R.way, D.tr, D.truth, getV, getO, ioOk, argsOf, afterCall, putIo, Option.isSome, Option.map, Option.bind, bindT, List.set, endOf, List.cons_append, List.nil_append, List.getElem?_cons_zero, List.getElem?_cons_succ, mul_L, add_L, sub_L, L.mul, L.sub, L.add, x_lst, x_tup, x_fz, c_lt, c_le, c_gt, c_ge, c_eq, c_ne, c_eqB, c_neB, c_isNI, c_isNB, p_int, p_abs, p_isInt, p_isIntB, p_isBool, p_isBoolB, p_isTup, p_isLst, p_isLstT, p_isSeqT, p_isSeqL, p_isSeqI, p_isSeqB, p_isStrI, p_isStrB, Nat.reduceAdd, Nat.reduceSub, decide_true, decide_false, Bool.not_true, Bool.not_false, Bool.not_not, qB]
    refine ⟨fun hit => ?_, fun hit => ?_⟩
    · obtain ⟨r, e', q1, q2⟩ := inner.1 hit
      refine ⟨r, e', ?_, q2⟩
      rw [bo5_a]
      exact s_lastR (s_forR src q1)
    · obtain ⟨e', q1, s7', rfl⟩ := inner.2 hit
      refine ⟨bE Rd Bl ev s3 s4 s5 (some (.val (.int (i : Nat)))) s7', ?_, some (.val (.int (i : Nat))), s7', rfl⟩
      rw [bo5_a]
      exact s_last (s_for src q1))
  have any : (range_ 0 Rd.length).any (hit1 Rd Bl) = true := by
    obtain ⟨r, hr, b, hb, t1, t2⟩ := ex
    obtain ⟨i, hi⟩ := List.mem_iff_getElem?.mp hr
    obtain ⟨j, hj⟩ := List.mem_iff_getElem?.mp hb
    have il := (List.getElem?_eq_some_iff.mp hi).1
    have jl := (List.getElem?_eq_some_iff.mp hj).1
    rw [List.any_eq_true]
    refine ⟨.int (0 + (i : Int)), List.mem_of_getElem? (rng_get il), ?_⟩
    rw [at_int]
    show ((Rd[(i : Int).toNat]?).any fun p => (range_ 0 Bl.length).any (hit2 Rd Bl p)) = true
    rw [Int.toNat_natCast, hi]
    show ((range_ 0 Bl.length).any (hit2 Rd Bl r)) = true
    rw [List.any_eq_true]
    refine ⟨.int (0 + (j : Int)), List.mem_of_getElem? (rng_get jl), ?_⟩
    rw [at_int]
    show ((Bl[(j : Int).toNat]?).any fun q => isH Rd r q && isH Bl r q) = true
    rw [Int.toNat_natCast, hj]
    show (isH Rd r b && isH Bl r b) = true
    rw [t1, t2]
    rfl
  obtain ⟨r, e', q1, q2⟩ := main.1 any
  refine ⟨r, e', s_forR (ds := range_ 0 Rd.length) (d_rng ?_ (by omega)) q1, q2⟩
  unfold bE
  simp (config := { maxDischargeDepth := 20 }) only [runFn, denS, den, denL, List.map, List.replicate, List.length_cons, List.length_nil, R.bind, R.of, R.way, D.tr, D.truth, getV, getO, ioOk, argsOf, afterCall, putIo, Option.isSome, Option.map, Option.bind, bindT, List.set, endOf, List.cons_append, List.nil_append, List.getElem?_cons_zero, List.getElem?_cons_succ, mul_L, add_L, sub_L, L.mul, L.sub, L.add, x_lst, x_tup, x_fz, c_lt, c_le, c_gt, c_ge, c_eq, c_ne, c_eqB, c_neB, c_isNI, c_isNB, p_int, p_abs, p_isInt, p_isIntB, p_isBool, p_isBoolB, p_isTup, p_isLst, p_isLstT, p_isSeqT, p_isSeqL, p_isSeqI, p_isSeqB, p_isStrI, p_isStrB, Nat.reduceAdd, Nat.reduceSub, decide_true, decide_false, Bool.not_true, Bool.not_false, Bool.not_not, qR]
end
end Ev
set_option Elab.async false
set_option linter.all false
set_option maxRecDepth 100000
set_option maxHeartbeats 4000000
set_option autoImplicit false
/-! Pl31: halving_both, whole. -/
namespace Ev
section
variable {C : Ctx} {np tu ih : Nat} {Rd Bl : List Pt}
theorem run_both (hn1 : C.call np [.val (.tup (lp Rd))] = .ok .non []) (hn2 : C.call np [.val (.tup (lp Bl))] = .ok .non []) (ht : TrnS C tu) (hh : HlfS C ih) (hp : Oks (Rd ++ Bl)) (l1 : Rd.length % 2 = 1) (l2 : Bl.length % 2 = 1) (l3 : (Rd ++ Bl).length ≤ 40) (ds : ∀ a ∈ Rd, a ∉ Bl)
    (ex : ∃ r ∈ Rd, ∃ b ∈ Bl, isH Rd r b = true ∧ isH Bl r b = true) : ∃ r, runFn C (fBoth np tu ih) [.val (.tup (lp Rd)), .val (.tup (lp Bl))] = .ok r [] ∧ BothQ Rd Bl r := by
  have ll : (Rd ++ Bl).length = Rd.length + Bl.length := List.length_append
  have qR := len_ptsT (ps := Rd) (by omega)
  have qB := len_ptsT (ps := Bl) (by omega)
  have qE := len_ptsT (ps := Rd ++ Bl) (by omega)
  have gR : ∀ p ∈ Rd, Good p := fun p h => hp.gd p (List.mem_append_left _ h)
  have gB : ∀ p ∈ Bl, Good p := fun p h => hp.gd p (List.mem_append_right _ h)
  have mR := mod2 (n := Rd.length)
  have mB := mod2 (n := Bl.length)
  rw [l1] at mR
  rw [l2] at mB
  have d1 : decide (((1 : Nat) : Int) = 0) = false := by decide
  have x0 : denS C (stm (fBoth np tu ih).body 0) [some (.val (.tup (lp Rd))), some (.val (.tup (lp Bl))), none, none, none, none, none, none, none] = .ok .nx [some (.val (.tup (lp Rd))), some (.val (.tup (lp Bl))), none, none, none, none, none, none, none] := by
    simp (config := { maxDischargeDepth := 20 }) only [runFn, denS, den, denL, List.map, List.replicate, List.length_cons, List.length_nil, R.bind, R.of, R.way, D.tr, D.truth, getV, getO, ioOk, argsOf, afterCall, putIo, Option.isSome, Option.map, Option.bind, bindT, List.set, endOf, List.cons_append, List.nil_append, List.getElem?_cons_zero, List.getElem?_cons_succ, mul_L, add_L, sub_L, L.mul, L.sub, L.add, x_lst, x_tup, x_fz, c_lt, c_le, c_gt, c_ge, c_eq, c_ne, c_eqB, c_neB, c_isNI, c_isNB, p_int, p_abs, p_isInt, p_isIntB, p_isBool, p_isBoolB, p_isTup, p_isLst, p_isLstT, p_isSeqT, p_isSeqL, p_isSeqI, p_isSeqB, p_isStrI, p_isStrB, Nat.reduceAdd, Nat.reduceSub, decide_true, decide_false, Bool.not_true, Bool.not_false, Bool.not_not, stm, fBoth, hn1]
  have x1 : denS C (stm (fBoth np tu ih).body 1) [some (.val (.tup (lp Rd))), some (.val (.tup (lp Bl))), none, none, none, none, none, none, none] = .ok .nx [some (.val (.tup (lp Rd))), some (.val (.tup (lp Bl))), none, none, none, none, none, none, none] := by
    simp (config := { maxDischargeDepth := 20 }) only [runFn, denS, den, denL, List.map, List.replicate, List.length_cons, List.length_nil, R.bind, R.of, R.way, D.tr, D.truth, getV, getO, ioOk, argsOf, afterCall, putIo, Option.isSome, Option.map, Option.bind, bindT, List.set, endOf, List.cons_append, List.nil_append, List.getElem?_cons_zero, List.getElem?_cons_succ, mul_L, add_L, sub_L, L.mul, L.sub, L.add, x_lst, x_tup, x_fz, c_lt, c_le, c_gt, c_ge, c_eq, c_ne, c_eqB, c_neB, c_isNI, c_isNB, p_int, p_abs, p_isInt, p_isIntB, p_isBool, p_isBoolB, p_isTup, p_isLst, p_isLstT, p_isSeqT, p_isSeqL, p_isSeqI, p_isSeqB, p_isStrI, p_isStrB, Nat.reduceAdd, Nat.reduceSub, decide_true, decide_false, Bool.not_true, Bool.not_false, Bool.not_not, stm, fBoth, hn2]
  have lc : den C (.lc [8] (.nm 8) (.items (.var 0)) (.cmp .mem (.var 8) (.var 1)) (.var 8)) [some (.val (.tup (lp Rd))), some (.val (.tup (lp Bl))), none, none, none, none, none, none, none] = .ok (.lst []) [some (.val (.tup (lp Rd))), some (.val (.tup (lp Bl))), none, none, none, none, none, none, none] := by
    have q := lc_nm (C := C) (i := 8) (src := .items (.var 0)) (cond := .cmp .mem (.var 8) (.var 1)) (elt := .var 8) (e := [some (.val (.tup (lp Rd))), some (.val (.tup (lp Bl))), none, none, none, none, none, none, none]) (ds := lp Rd) (p := fun _ => false) (g := id) rfl rfl (fun d hd => by
      obtain ⟨p, hp', rfl⟩ := List.mem_map.mp hd
      have cm := c_memT (p := p) (ps := Bl)
      rw [decide_eq_false (ds p hp')] at cm
      show R.of ((cmpop .mem p.d (.tup (lp Bl))).map D.bl) _ = _
      rw [cm]
      rfl) (fun d hd h => by cases h) (by rw [List.length_map]; exact Nat.le_trans (show Rd.length ≤ 40 by omega) (by decide))
    have e0 : ((lp Rd).filter fun _ => false).map id = [] := by simp
    rw [e0] at q
    exact q
  have x2 : denS C (stm (fBoth np tu ih).body 2) [some (.val (.tup (lp Rd))), some (.val (.tup (lp Bl))), none, none, none, none, none, none, none] = .ok .nx [some (.val (.tup (lp Rd))), some (.val (.tup (lp Bl))), none, none, none, none, none, none, none] := by
    have c1 : den C (.cmp .eq (.bin .mod (.prim .len (.cons (.var 0) .nil)) (.lit (.int 2))) (.lit (.int 0))) [some (.val (.tup (lp Rd))), some (.val (.tup (lp Bl))), none, none, none, none, none, none, none] = .ok (.bl false) [some (.val (.tup (lp Rd))), some (.val (.tup (lp Bl))), none, none, none, none, none, none, none] := by
      simp (config := { maxDischargeDepth := 20 }) only [runFn, denS, den, denL, List.map, List.replicate, List.length_cons, List.length_nil, R.bind, R.of, R.way, D.tr, D.truth, getV, getO, ioOk, argsOf, afterCall, putIo, Option.isSome, Option.map, Option.bind, bindT, List.set, endOf, List.cons_append, List.nil_append, List.getElem?_cons_zero, List.getElem?_cons_succ, mul_L, add_L, sub_L, L.mul, L.sub, L.add, x_lst, x_tup, x_fz, c_lt, c_le, c_gt, c_ge, c_eq, c_ne, c_eqB, c_neB, c_isNI, c_isNB, p_int, p_abs, p_isInt, p_isIntB, p_isBool, p_isBoolB, p_isTup, p_isLst, p_isLstT, p_isSeqT, p_isSeqL, p_isSeqI, p_isSeqB, p_isStrI, p_isStrB, Nat.reduceAdd, Nat.reduceSub, decide_true, decide_false, Bool.not_true, Bool.not_false, Bool.not_not, qR, mR, d1]
    have c2 : den C (.cmp .eq (.bin .mod (.prim .len (.cons (.var 1) .nil)) (.lit (.int 2))) (.lit (.int 0))) [some (.val (.tup (lp Rd))), some (.val (.tup (lp Bl))), none, none, none, none, none, none, none] = .ok (.bl false) [some (.val (.tup (lp Rd))), some (.val (.tup (lp Bl))), none, none, none, none, none, none, none] := by
      simp (config := { maxDischargeDepth := 20 }) only [runFn, denS, den, denL, List.map, List.replicate, List.length_cons, List.length_nil, R.bind, R.of, R.way, D.tr, D.truth, getV, getO, ioOk, argsOf, afterCall, putIo, Option.isSome, Option.map, Option.bind, bindT, List.set, endOf, List.cons_append, List.nil_append, List.getElem?_cons_zero, List.getElem?_cons_succ, mul_L, add_L, sub_L, L.mul, L.sub, L.add, x_lst, x_tup, x_fz, c_lt, c_le, c_gt, c_ge, c_eq, c_ne, c_eqB, c_neB, c_isNI, c_isNB, p_int, p_abs, p_isInt, p_isIntB, p_isBool, p_isBoolB, p_isTup, p_isLst, p_isLstT, p_isSeqT, p_isSeqL, p_isSeqI, p_isSeqB, p_isStrI, p_isStrB, Nat.reduceAdd, Nat.reduceSub, decide_true, decide_false, Bool.not_true, Bool.not_false, Bool.not_not, qB, mB, d1]
    have c3 : den C (.cmp .ne (.lc [8] (.nm 8) (.items (.var 0)) (.cmp .mem (.var 8) (.var 1)) (.var 8)) (.lst .nil)) [some (.val (.tup (lp Rd))), some (.val (.tup (lp Bl))), none, none, none, none, none, none, none] = .ok (.bl false) [some (.val (.tup (lp Rd))), some (.val (.tup (lp Bl))), none, none, none, none, none, none, none] := by
      show ((den C (.lc [8] (.nm 8) (.items (.var 0)) (.cmp .mem (.var 8) (.var 1)) (.var 8)) _).bind fun x e => (den C (.lst .nil) e).bind fun y e => R.of ((cmpop .ne x y).map D.bl) e) = _
      rw [lc]
      rfl
    show (((den C (.cmp .eq (.bin .mod (.prim .len (.cons (.var 0) .nil)) (.lit (.int 2))) (.lit (.int 0))) [some (.val (.tup (lp Rd))), some (.val (.tup (lp Bl))), none, none, none, none, none, none, none]).bind fun x e => match x with
      | .bl true => .ok (.bl true) e
      | .bl false => den C (.or (.cmp .eq (.bin .mod (.prim .len (.cons (.var 1) .nil)) (.lit (.int 2))) (.lit (.int 0))) (.cmp .ne (.lc [8] (.nm 8) (.items (.var 0)) (.cmp .mem (.var 8) (.var 1)) (.var 8)) (.lst .nil))) e
      | _ => .no).bind fun x e => R.way x (denS C (.cons .never .nil) e) (denS C .nil e)) = _
    rw [c1]
    show (((den C (.cmp .eq (.bin .mod (.prim .len (.cons (.var 1) .nil)) (.lit (.int 2))) (.lit (.int 0))) [some (.val (.tup (lp Rd))), some (.val (.tup (lp Bl))), none, none, none, none, none, none, none]).bind fun x e => match x with
      | .bl true => .ok (.bl true) e
      | .bl false => den C (.cmp .ne (.lc [8] (.nm 8) (.items (.var 0)) (.cmp .mem (.var 8) (.var 1)) (.var 8)) (.lst .nil)) e
      | _ => .no).bind fun x e => R.way x (denS C (.cons .never .nil) e) (denS C .nil e)) = _
    rw [c2]
    show ((den C (.cmp .ne (.lc [8] (.nm 8) (.items (.var 0)) (.cmp .mem (.var 8) (.var 1)) (.var 8)) (.lst .nil)) [some (.val (.tup (lp Rd))), some (.val (.tup (lp Bl))), none, none, none, none, none, none, none]).bind fun x e => R.way x (denS C (.cons .never .nil) e) (denS C .nil e)) = _
    rw [c3]
    rfl
  have ba : binop .add (.tup (lp Rd)) (.tup (lp Bl)) = some (.tup (lp (Rd ++ Bl))) := by
    show (if (lp Rd).length + (lp Bl).length ≤ lim then some (D.tup (lp Rd ++ lp Bl)) else none) = _
    rw [List.length_map, List.length_map, if_pos (Nat.le_trans (show Rd.length + Bl.length ≤ 40 by omega) (by decide)), ← List.map_append]
  have x3 : denS C (stm (fBoth np tu ih).body 3) [some (.val (.tup (lp Rd))), some (.val (.tup (lp Bl))), none, none, none, none, none, none, none] = .ok .nx (bE Rd Bl (Rd ++ Bl) none none none none none) := by
    simp (config := { maxDischargeDepth := 20 }) only [runFn, denS, den, denL, List.map, List.replicate, List.length_cons, List.length_nil, R.bind, R.of, R.way, D.tr, D.truth, getV, getO, ioOk, argsOf, afterCall, putIo, Option.isSome, Option.map, Option.bind, bindT, List.set, endOf, List.cons_append, List.nil_append, List.getElem?_cons_zero, List.getElem?_cons_succ, mul_L, add_L, sub_L, L.mul, L.sub, L.add, x_lst, x_tup, x_fz, c_lt, c_le, c_gt, c_ge, c_eq, c_ne, c_eqB, c_neB, c_isNI, c_isNB, p_int, p_abs, p_isInt, p_isIntB, p_isBool, p_isBoolB, p_isTup, p_isLst, p_isLstT, p_isSeqT, p_isSeqL, p_isSeqI, p_isSeqB, p_isStrI, p_isStrB, Nat.reduceAdd, Nat.reduceSub, decide_true, decide_false, Bool.not_true, Bool.not_false, Bool.not_not, stm, fBoth, ba, bE]
  obtain ⟨e', k, s3, s4, s5, rfl⟩ := for_all (t := .nm 3) (b := denS C (bo1 tu)) (ds := range_ 0 (Rd ++ Bl).length) (e := bE Rd Bl (Rd ++ Bl) none none none none none) (fun _ e => ∃ s3 s4 s5, e = bE Rd Bl (Rd ++ Bl) s3 s4 s5 none none) ⟨none, none, none, rfl⟩ (fun k d e hd hI => by
    obtain ⟨hk, rfl⟩ := rng_some hd
    obtain ⟨s3, s4, s5, rfl⟩ := hI
    obtain ⟨s4', s5', q⟩ := bo_in2 (Rd := Rd) (Bl := Bl) ht hp l3 k hk s4 s5
    rw [at_int]
    exact ⟨_, _, rfl, q, some (.val (.int (k : Nat))), s4', s5', rfl⟩)
  have x4 : denS C (stm (fBoth np tu ih).body 4) (bE Rd Bl (Rd ++ Bl) none none none none none) = .ok .nx (bE Rd Bl (Rd ++ Bl) s3 s4 s5 none none) := by
    show denS C (.for_ (.nm 3) (.rng1 (.prim .len (.cons (.var 2) .nil))) (bo1 tu)) _ = _
    refine s_for (ds := range_ 0 (Rd ++ Bl).length) (d_rng ?_ (by omega)) k
    unfold bE
    simp (config := { maxDischargeDepth := 20 }) only [runFn, denS, den, denL, List.map, List.replicate, List.length_cons, List.length_nil, R.bind, R.of, R.way, D.tr, D.truth, getV, getO, ioOk, argsOf, afterCall, putIo, Option.isSome, Option.map, Option.bind, bindT, List.set, endOf, List.cons_append, List.nil_append, List.getElem?_cons_zero, List.getElem?_cons_succ, mul_L, add_L, sub_L, L.mul, L.sub, L.add, x_lst, x_tup, x_fz, c_lt, c_le, c_gt, c_ge, c_eq, c_ne, c_eqB, c_neB, c_isNI, c_isNB, p_int, p_abs, p_isInt, p_isIntB, p_isBool, p_isBoolB, p_isTup, p_isLst, p_isLstT, p_isSeqT, p_isSeqL, p_isSeqI, p_isSeqB, p_isStrI, p_isStrB, Nat.reduceAdd, Nat.reduceSub, decide_true, decide_false, Bool.not_true, Bool.not_false, Bool.not_not, qE]
  obtain ⟨r, e', x5, Q⟩ := bo_last (C := C) (ih := ih) (ev := Rd ++ Bl) (s3 := s3) (s4 := s4) (s5 := s5) (s6 := none) (s7 := none) hh gR gB (by omega) (by omega) ex
  refine ⟨r, ?_, Q⟩
  have kk : denS C (fBoth np tu ih).body [some (.val (.tup (lp Rd))), some (.val (.tup (lp Bl))), none, none, none, none, none, none, none] = .ok (.rt r) e' := by
    show denS C (drp (fBoth np tu ih).body 0) _ = _
    refine Eq.trans (step rfl x0) ?_
    refine Eq.trans (step rfl x1) ?_
    refine Eq.trans (step rfl x2) ?_
    refine Eq.trans (step rfl x3) ?_
    refine Eq.trans (step rfl x4) ?_
    show denS C (.cons (.for_ (.nm 6) (.rng1 (.prim .len (.cons (.var 0) .nil))) (bo5 ih)) _) _ = _
    exact s_lastR x5
  exact (run_rt kk).trans rfl
end
/-! ### from the plain law -/
section
variable {ps Rd Bl : List Pt}
theorem oth_len {q : List Pt} {r b : Pt} (hn : q.Nodup) (h : (r ∈ q ∧ b ∉ q) ∨ (r ∉ q ∧ b ∈ q)) : (oth q r b).length + 1 = q.length := by
  have gen : ∀ m : List Pt, r ≠ b → (m.filter fun p => decide (p ∉ [r, b])).length + m.count r + m.count b = m.length := fun m n => by
    induction m with
    | nil => rfl
    | cons z m ih =>
      rw [List.count_cons, List.count_cons, List.length_cons]
      by_cases e1 : z = r
      · subst e1
        rw [List.filter_cons_of_neg (by simp)]
        simp [n]
        simp at ih
        omega
      · by_cases e2 : z = b
        · subst e2
          rw [List.filter_cons_of_neg (by simp)]
          simp [e1]
          simp at ih
          omega
        · rw [List.filter_cons_of_pos (by simp [e1, e2])]
          simp [e1, e2]
          simp at ih
          omega
  have ne : r ≠ b := fun e => by
    rcases h with ⟨h1, h2⟩ | ⟨h1, h2⟩
    · exact h2 (by rw [← e]; exact h1)
    · exact h1 (by rw [e]; exact h2)
  have g := gen q ne
  unfold oth
  rcases h with ⟨h1, h2⟩ | ⟨h1, h2⟩
  · rw [hn.count, hn.count, if_pos h1, if_neg h2] at g
    omega
  · rw [hn.count, hn.count, if_neg h1, if_pos h2] at g
    omega
theorem oth_Lc {q : List Pt} {r b : Pt} : Lc (oth q r b) r b = q.countP fun z => decide (0 < dbl r b z) := by
  unfold Lc oth
  rw [← List.countP_eq_length_filter, List.countP_filter]
  refine List.countP_congr fun z _ => ?_
  simp only [Bool.and_eq_true, decide_eq_true_eq]
  refine ⟨fun h => h.1, fun h => ⟨h, fun m => ?_⟩⟩
  rcases List.mem_cons.mp m with rfl | m
  · rw [dbl_aba] at h
    omega
  · rw [List.mem_singleton.mp m, dbl_abb] at h
    omega
theorem isH_of {q : List Pt} {r b : Pt} {h : Nat} (hn : q.Nodup) (hl : q.length = 2 * h + 1) (hm : (r ∈ q ∧ b ∉ q) ∨ (r ∉ q ∧ b ∈ q)) (k : (q.countP fun z => decide (0 < dbl r b z)) = h) : isH q r b = true := by
  have l := oth_len hn hm
  unfold isH
  rw [oth_Lc, k]
  exact decide_eq_true (by omega)
/-- two odd lists in general position together have a point of each that halves both -/
theorem both_ex (hp : Oks (Rd ++ Bl)) (hca : ∀ p ∈ Rd ++ Bl, Ca p) (l1 : Rd.length % 2 = 1) (l2 : Bl.length % 2 = 1) (ds : ∀ a ∈ Rd, a ∉ Bl) : ∃ r ∈ Rd, ∃ b ∈ Bl, isH Rd r b = true ∧ isH Bl r b = true := by
  have nd := List.nodup_append.mp hp.gen.nd
  obtain ⟨r, b, h1, h2, _, h4, _, h6⟩ := ham (ps := Rd ++ Bl) hp hca (R := Rd) (B := Bl) (h := Rd.length / 2) (k := Bl.length / 2) ⟨nd.1, nd.2.1, fun a h => List.mem_append_left _ h, fun a h => List.mem_append_right _ h, ds, by omega, by omega⟩
  exact ⟨r, h1, b, h2, isH_of nd.1 (by omega) (.inl ⟨h1, fun z => ds b z h2⟩) h4, isH_of nd.2.1 (by omega) (.inr ⟨fun z => ds r h1 z, h2⟩) h6⟩
/-- the turns of the others add up to nothing -/
theorem sum_zero {q : List Pt} {r b : Pt} (hg : ∀ z ∈ oth q r b, dbl r b z ≠ 0) (h : isH q r b = true) : ((oth q r b).map fun z => sgn (dbl r b z)).sum = 0 := by
  have h := of_decide_eq_true h
  unfold Lc at h
  rw [← List.countP_eq_length_filter] at h
  have gen : ∀ m : List Pt, (∀ z ∈ m, dbl r b z ≠ 0) → (m.map fun z => sgn (dbl r b z)).sum = 2 * ((m.countP fun z => decide (0 < dbl r b z) : Nat) : Int) - m.length := fun m => by
    induction m with
    | nil => intro _; rfl
    | cons z m ih =>
      intro hm
      have ih := ih fun w hw => hm w (List.mem_cons_of_mem _ hw)
      have d := hm z List.mem_cons_self
      have c := sgn_cases (dbl r b z)
      rw [List.map_cons, List.sum_cons, ih, List.countP_cons, List.length_cons]
      by_cases e : 0 < dbl r b z
      · rw [decide_eq_true e]
        simp
        omega
      · rw [decide_eq_false e]
        simp
        omega
  rw [gen _ hg]
  omega
end
end Ev
set_option Elab.async false
set_option linter.all false
set_option maxRecDepth 100000
set_option maxHeartbeats 4000000
set_option autoImplicit false
namespace Lw
open Ev
abbrev T : List Fn := ents.map Ent.fn
abbrev cl (fu n : Nat) : Call := callN (globI glv) fu T n
abbrev cx (fu n : Nat) : Ctx := ⟨cl fu n, globI glv, fu⟩
theorem call_eq {fu n f : Nat} {F : Fn} {xs : List Sl} (h : T[f]? = some F) (k : argsFit F xs = true) : cl fu (n + 1) f xs = runFn (cx fu n) F xs := by
  show (match T[f]? with | none => O.no | some F => if argsFit F xs = true then runFn (cx fu n) F xs else .no) = _
  rw [h]
  exact if_pos k
theorem s0 {fu n : Nat} : InS (cx fu (n + 1)) 0 := fun v l m h1 h2 => (call_eq (fu := fu) (n := n) (f := 0) (F := fIn) rfl rfl).trans (run_in h1 h2)
theorem s1 {fu n : Nat} : GcdS (cx fu (n + 1)) 1 := fun a b h => (call_eq (fu := fu) (n := n) (f := 1) (F := fGcd) rfl rfl).trans (run_gcd h)
theorem s2 {fu n : Nat} : SgnS (cx fu (n + 1)) 2 := fun i => (call_eq (fu := fu) (n := n) (f := 2) (F := fSign) rfl rfl).trans run_sign
theorem s3 {fu n : Nat} {p : Pt} (k : Good p) (hfu : 1000000000000 < fu) : cl fu (n + 2) 3 [.val p.d] = .ok (.bl true) [] := (call_eq (fu := fu) (n := n + 1) (f := 3) (F := (fIsPoint 0 1)) rfl rfl).trans (run_is_point (s0 (n := n)) (s1 (n := n)) rfl k hfu)
theorem s4 {fu n : Nat} {ps : List Pt} (hfu : 1000000000000 < fu) (hp : Oks ps) (h1 : 1 ≤ ps.length) (h2 : ps.length ≤ 40) : cl fu (n + 3) 4 [.val (.tup (lp ps))] = .ok .non [] := (call_eq (fu := fu) (n := n + 2) (f := 4) (F := (fNeedPoints 3 1)) rfl rfl).trans (run_need_points (fun p h => s3 (n := n) h hfu) rfl hp h1 h2)
theorem s5 {fu n : Nat} : DblS (cx fu (n + 1)) 5 := fun a b c ha hb hc _ => (call_eq (fu := fu) (n := n) (f := 5) (F := fDoubled) rfl rfl).trans (run_doubled ha hb hc)
theorem s6 {fu n : Nat} : TrnS (cx fu (n + 2)) 6 := fun a b c ha hb hc h => (call_eq (fu := fu) (n := n + 1) (f := 6) (F := (fTurnOf 2 5)) rfl rfl).trans (run_turn_of (s2 (n := n)) (s5 (n := n) a b c ha hb hc h))
theorem s7 {fu n : Nat} : LfS (cx fu (n + 3)) 7 := fun ps a b hp ha hb h2 => (call_eq (fu := fu) (n := n + 2) (f := 7) (F := (fLefts 6)) rfl rfl).trans (run_lefts (s6 (n := n)) hp ha hb h2)
theorem s10 {fu n : Nat} : TakS (cx fu (n + 1)) 10 := fun s cs m hs hr h0 hm => by
  obtain ⟨v, cs', e, r⟩ := taken_ok (C := cx fu n) hs hr h0 hm
  exact ⟨v, cs', (call_eq (fu := fu) (n := n) (f := 10) (F := fTaken) rfl rfl).trans e, r⟩
theorem s11 {fu n : Nat} : PicS (cx fu (n + 2)) 11 := fun s cs xs hs hr h0 hm => by
  obtain ⟨j, h, cs', e, r⟩ := run_pick (s10 (n := n)) hs hr h0 hm
  exact ⟨j, h, cs', (call_eq (fu := fu) (n := n + 1) (f := 11) (F := (fPick 10)) rfl rfl).trans e, r⟩
theorem s12 {fu n : Nat} : SigS (cx fu (n + 2)) 12 := fun s cs m hs hr h0 hm => by
  obtain ⟨v, cs', e, r⟩ := run_signed (s10 (n := n)) hs hr h0 hm
  exact ⟨v, cs', (call_eq (fu := fu) (n := n + 1) (f := 12) (F := (fSigned 10)) rfl rfl).trans e, r⟩
theorem s13 {fu n : Nat} {s : List Int} {cs : List D} {m : Int} (hs : s.length ≤ 63) (hr : Row s cs) (h0 : 0 ≤ m) (hm : m < 1000000000) : ∃ x y cs', cl fu (n + 3) 13 [.own cs, .val (.int m)] = .ok (Pt.d ⟨x, y, 1⟩) cs' ∧ Row s cs' ∧ Nb m.toNat x ∧ Nb m.toNat y := by
  obtain ⟨x, y, cs', e, r⟩ := run_grid (C := cx fu (n + 2)) (s12 (n := n)) hs hr h0 hm
  exact ⟨x, y, cs', (call_eq (fu := fu) (n := n + 2) (f := 13) (F := (fGrid 12)) rfl rfl).trans e, r⟩
theorem s14 {fu n : Nat} : SgnS (cx fu (n + 1)) 14 := fun i => (call_eq (fu := fu) (n := n) (f := 14) (F := fSignL) rfl rfl).trans run_signL
theorem s15 {fu n : Nat} : DblS (cx fu (n + 1)) 15 := fun a b c ha hb hc h => (call_eq (fu := fu) (n := n) (f := 15) (F := fLDoubled) rfl rfl).trans (run_ldoubled ha hb hc h)
theorem s16 {fu n : Nat} : TrnS (cx fu (n + 2)) 16 := fun a b c ha hb hc h => (call_eq (fu := fu) (n := n + 1) (f := 16) (F := (fTurnOf 14 15)) rfl rfl).trans (run_turn_of (s14 (n := n)) (s15 (n := n) a b c ha hb hc h))
theorem s17 {fu n : Nat} {s : List Int} {cs : List D} {lo hi : Int} (hs : s.length ≤ 63) (hr : Row s cs) (h0 : 1 ≤ lo) (h1 : lo ≤ hi) (h2 : hi ≤ 100) : ∃ ps cs', cl fu (n + 4) 17 [.own cs, .val (.int lo), .val (.int hi)] = .ok (.tup (lp ps)) cs' ∧ Row s cs' ∧ Gen ps ∧ (∀ p ∈ ps, Gd 1600 p) ∧ (2 ≤ lo → 2 ≤ ps.length) ∧ 1 ≤ ps.length ∧ (ps.length : Int) ≤ hi := by
  obtain ⟨ps, cs', e, r⟩ := run_general (C := cx fu (n + 3)) (tk := 10) (pk := 11) (gr := 13) (tn := 16) (s10 (n := n + 2)) (s11 (n := n + 1)) (fun s cs m a b c d => s13 (n := n) a b c d) (fun a b c ha hb hc => s16 (n := n + 1) a b c (ha.sz (by decide)) (hb.sz (by decide)) (hc.sz (by decide)) (by rw [ha.w]; decide)) hs hr h0 h1 h2
  exact ⟨ps, cs', (call_eq (fu := fu) (n := n + 3) (f := 17) (F := (fGeneral 10 11 13 16)) rfl rfl).trans e, r⟩
theorem s18 {fu n : Nat} : GcdS (cx fu (n + 1)) 18 := fun a b h => (call_eq (fu := fu) (n := n) (f := 18) (F := fGcdL) rfl rfl).trans (run_gcdL h)
theorem s19 {fu n : Nat} : LowS (cx fu (n + 2)) 19 := fun x y w h l hy hf => (call_eq (fu := fu) (n := n + 1) (f := 19) (F := (fLowL 18)) rfl rfl).trans (run_lowL (s18 (n := n)) h l hy hf)
theorem s19N {fu n : Nat} : LowN (cx fu (n + 2)) 19 := fun x y w h l hy hf => (call_eq (fu := fu) (n := n + 1) (f := 19) (F := (fLowL 18)) rfl rfl).trans (run_lowLN (s18 (n := n)) h l hy hf)
theorem s20 {fu n : Nat} {s : List Int} {cs : List D} {ps : List Pt} (hf : 2000000000 < fu) (hs : s.length ≤ 63) (hr : Row s cs) (hp : Gen ps) (hg : ∀ p ∈ ps, Gd 1600 p) (hl : ps.length ≤ 100) : ∃ ps' cs', cl fu (n + 3) 20 [.own cs, .val (.tup (lp ps))] = .ok (.tup (lp ps')) cs' ∧ Row s cs' ∧ Oks ps' ∧ ps'.length = ps.length := by
  obtain ⟨ps, cs', e, r⟩ := run_moved (C := cx fu (n + 2)) (tk := 10) (pk := 11) (lo := 19) (s10 (n := n + 1)) (s11 (n := n)) (s19N (n := n)) hf hs hr hp hg hl
  exact ⟨ps, cs', (call_eq (fu := fu) (n := n + 2) (f := 20) (F := (fMoved 10 11 19)) rfl rfl).trans e, r⟩
end Lw
set_option Elab.async false
set_option linter.all false
set_option maxRecDepth 100000
set_option maxHeartbeats 4000000
set_option autoImplicit false
/-! Q1: k27, the law. -/
namespace Lw
open Ev
variable {fu n : Nat} {s : List Int} {ps Rd Bl : List Pt}
theorem lf7 : LfL (cx fu (n + 3)) 7 := fun ps a b hp ha hb h2 => (call_eq (fu := fu) (n := n + 2) (f := 7) (F := fLefts 6) rfl rfl).trans (run_leftsL (s6 (n := n)) hp ha hb h2)
theorem h8 : HlfS (cx fu (n + 4)) 8 := fun ps a b hp ha hb h2 => (call_eq (fu := fu) (n := n + 3) (f := 8) (F := fIsHalved 7) rfl rfl).trans (run_halved (lf7 (n := n)) hp ha hb h2)
theorem both9 (hfu : 1000000000000 < fu) (hp : Oks (Rd ++ Bl)) (l1 : Rd.length % 2 = 1) (l2 : Bl.length % 2 = 1) (l3 : (Rd ++ Bl).length ≤ 40) (ds : ∀ a ∈ Rd, a ∉ Bl) : ∃ r, cl fu (n + 5) 9 [.val (.tup (lp Rd)), .val (.tup (lp Bl))] = .ok r [] ∧ BothQ Rd Bl r := by
  have nd := List.nodup_append.mp hp.gen.nd
  have ll : (Rd ++ Bl).length = Rd.length + Bl.length := List.length_append
  have oR := hp.sub nd.1 fun a h => List.mem_append_left _ h
  have oB := hp.sub nd.2.1 fun a h => List.mem_append_right _ h
  have hca : ∀ p ∈ Rd ++ Bl, Ca p := fun p h => ⟨by have := (hp.gd p h).w0; omega, (hp.gd p h).g⟩
  obtain ⟨r, e, q⟩ := run_both (C := cx fu (n + 4)) (np := 4) (tu := 6) (ih := 8) (s4 (n := n + 1) hfu oR (by omega) (by omega)) (s4 (n := n + 1) hfu oB (by omega) (by omega)) (s6 (n := n + 2)) (h8 (n := n)) hp l1 l2 l3 ds (both_ex hp hca l1 l2 ds)
  exact ⟨r, (call_eq (fu := fu) (n := n + 4) (f := 9) (F := fBoth 4 6 8) rfl rfl).trans e, q⟩
theorem gen17 {cs : List D} (hs : s.length ≤ 63) (hr : Row s cs) : ∃ ps cs', cl fu (n + 5) 17 [.own cs, .val (.int 8), .val (.int 8)] = .ok (.tup (lp ps)) cs' ∧ Row s cs' ∧ Gen ps ∧ (∀ p ∈ ps, Gd 1600 p) ∧ ps.length = 8 := by
  obtain ⟨ps, cs', e, r, g1, g2, g3, g4⟩ := run_generalE (C := cx fu (n + 4)) (tk := 10) (pk := 11) (gr := 13) (tn := 16) (lo := 8) (hi := 8) (s10 (n := n + 3)) (s11 (n := n + 2)) (fun s cs m a b c d => s13 (n := n + 1) a b c d) (fun a b c ha hb hc => s16 (n := n + 2) a b c (ha.sz (by decide)) (hb.sz (by decide)) (hc.sz (by decide)) (by rw [ha.w]; decide)) hs hr (by decide) (by decide) (by decide)
  exact ⟨ps, cs', (call_eq (fu := fu) (n := n + 4) (f := 17) (F := fGeneral 10 11 13 16) rfl rfl).trans e, r, g1, g2, by omega⟩
theorem cut_mid {m q : Nat} (h : m + q ≤ ps.length) : slop (.tup (lp ps)) (some (m : Int)) (some ((m : Int) + (q : Int))) = some (.tup (lp ((ps.drop m).take q))) := by
  have e : ((m : Int) + (q : Int)) = ((m + q : Nat) : Int) := by omega
  rw [e]
  show some (D.tup (((lp ps).drop (min m (lp ps).length)).take (min (m + q) (lp ps).length - min m (lp ps).length))) = _
  rw [List.length_map, Nat.min_eq_left (show m ≤ ps.length by omega), Nat.min_eq_left h, show m + q - m = q by omega, ← List.map_drop, ← List.map_take]
def sb : Sm := bodyOf (stm ir21 9)
def vE (v0 : D) (cs : List D) (ps : List Pt) (m : Nat) (R B : List Pt) (f : D) (a b : Pt) (s9 s10 : Option Sl) : Env := [some (.val v0), some (.own cs), some (.val (.tup (lp ps))), some (.val (.int (m : Nat))), some (.val (.tup (lp R))), some (.val (.tup (lp B))), some (.val f), some (.val a.d), some (.val b.d), s9, s10, none, none]
theorem sb_ok {v0 f : D} {cs : List D} {m : Nat} {RL BL S : List Pt} {a b : Pt} {s10 : Option Sl} (hg : ∀ p ∈ S, Good p) (ga : Good a) (gb : Good b) (hl : S.length ≤ 40) (hz : ∀ z ∈ oth S a b, dbl a b z ≠ 0) (hH : isH S a b = true) :
    ∃ t10, denS (cx fu (n + 5)) sb (vE v0 cs ps m RL BL f a b (some (.val (.tup (lp S)))) s10) = .ok .nx (vE v0 cs ps m RL BL f a b (some (.val (.tup (lp S)))) t10) ∧ (s10 = none ∨ ∃ d, s10 = some (.val d) → True) := by
  have ht : TrnS (cx fu (n + 5)) 16 := s16 (n := n + 3)
  have ee : ((oth S a b).map fun z => sgn (dbl a b z)).map D.int = ((lp S).filter fun d => match d with
      | .tup [.int x, .int y, .int w] => decide ((⟨x, y, w⟩ : Pt) ∉ [a, b])
      | _ => false).map fun d => match d with
      | .tup [.int x, .int y, .int w] => .int (sgn (dbl a b ⟨x, y, w⟩))
      | d => d := by
    rw [List.filter_map, List.map_map, List.map_map]
    rfl
  have lc : den (cx fu (n + 5)) (.lc [12] (.nm 12) (.items (.var 9)) (.and (.cmp .ne (.var 12) (.var 7)) (.cmp .ne (.var 12) (.var 8))) (.call 16 none (.cons (.var 7) (.cons (.var 8) (.cons (.var 12) .nil))))) (vE v0 cs ps m RL BL f a b (some (.val (.tup (lp S)))) s10) = .ok (.lst (((oth S a b).map fun z => sgn (dbl a b z)).map D.int)) (vE v0 cs ps m RL BL f a b (some (.val (.tup (lp S)))) s10) := by
    rw [ee]
    refine lc_nm (ds := lp S) rfl rfl (fun d hd => ?_) (fun d hd _ => ?_) (by rw [List.length_map]; exact Nat.le_trans hl (by decide))
    · obtain ⟨z, hz', rfl⟩ := List.mem_map.mp hd
      have c1 := c_neP (a := z) (b := a)
      have c2 := c_neP (a := z) (b := b)
      show ((R.of ((cmpop .ne z.d a.d).map D.bl) _).bind fun x e => match x with
        | .bl true => den (cx fu (n + 5)) (.cmp .ne (.var 12) (.var 8)) e
        | .bl false => .ok (.bl false) e
        | _ => .no) = _
      rw [c1]
      by_cases e1 : z = a
      · have m1 : decide (z ∉ [a, b]) = false := decide_eq_false (by simp [e1])
        show _ = R.ok (D.bl (decide (z ∉ [a, b]))) _
        rw [m1, decide_eq_true e1]
        rfl
      · rw [decide_eq_false e1]
        show R.of ((cmpop .ne z.d b.d).map D.bl) _ = R.ok (D.bl (decide (z ∉ [a, b]))) _
        rw [c2]
        by_cases e2 : z = b
        · have m1 : decide (z ∉ [a, b]) = false := decide_eq_false (by simp [e2])
          rw [m1, decide_eq_true e2]
          rfl
        · have m1 : decide (z ∉ [a, b]) = true := decide_eq_true (by simp [e1, e2])
          rw [m1, decide_eq_false e2]
          rfl
    · obtain ⟨z, hz', rfl⟩ := List.mem_map.mp hd
      show afterCall none (cl fu (n + 5) 16 [.val a.d, .val b.d, .val z.d]) _ = _
      have q : cl fu (n + 5) 16 [.val a.d, .val b.d, .val z.d] = .ok (.int (sgn (dbl a b z))) [] := ht a b z ga.sz gb.sz (hg z hz').sz ga.wne
      rw [q]
      rfl
  have sz := sum_zero hz hH
  have ps0 : prim .sum [.lst (((oth S a b).map fun z => sgn (dbl a b z)).map D.int)] = some (.int 0) := by
    show (intsOf (((oth S a b).map fun z => sgn (dbl a b z)).map D.int)).map (fun is => D.int is.sum) = _
    rw [intsOf_map]
    show some (D.int _) = _
    rw [sz]
  generalize ((oth S a b).map fun z => sgn (dbl a b z)).map D.int = LL at *
  refine ⟨some (.val (.lst LL)), ?_, .inr ⟨.non, fun _ => trivial⟩⟩
  show denS (cx fu (n + 5)) (drp sb 0) _ = _
  refine Eq.trans (step rfl (e' := vE v0 cs ps m RL BL f a b (some (.val (.tup (lp S)))) (some (.val (.lst LL)))) ?_) ?_
  · show ((den (cx fu (n + 5)) (.lc [12] (.nm 12) (.items (.var 9)) (.and (.cmp .ne (.var 12) (.var 7)) (.cmp .ne (.var 12) (.var 8))) (.call 16 none (.cons (.var 7) (.cons (.var 8) (.cons (.var 12) .nil))))) _).bind fun d e => match bindT (.nm 10) d e with
      | some e => R.ok Fl.nx e
      | none => .no) = _
    rw [lc]
    rfl
  · unfold vE
    have d0 : decide ((0 : Int) = 0) = true := by decide
    simp (config := { maxDischargeDepth := 20 }) only [runFn, denS, den, denL, List.map, List.replicate, List.length_cons, List.length_nil, R.bind, R.of, R.way, D.tr, D.truth, getV, getO, ioOk, argsOf, afterCall, putIo, Option.isSome, Option.map, Option.bind, bindT, List.set, endOf, List.cons_append, List.nil_append, List.getElem?_cons_zero, List.getElem?_cons_succ, mul_L, add_L, sub_L, L.mul, L.sub, L.add, x_lst, x_tup, x_fz, c_lt, c_le, c_gt, c_ge, c_eq, c_ne, c_eqB, c_neB, c_isNI, c_isNB, p_int, p_abs, p_isInt, p_isIntB, p_isBool, p_isBoolB, p_isTup, p_isLst, p_isLstT, p_isSeqT, p_isSeqL, p_isSeqI, p_isSeqB, p_isStrI, p_isStrB, Nat.reduceAdd, Nat.reduceSub, decide_true, decide_false, Bool.not_true, Bool.not_false, Bool.not_not, drp, sb, bodyOf, stm, ir21, ps0, d0]
theorem len2 {x y : D} : prim .len [.tup [x, y]] = some (.int 2) := rfl
theorem law_ok (hs : s.length ≤ 63) (hfu : 1000000000000 < fu) : ∃ e, cl fu (n + 6) 21 [.val (.fz (s.map D.int))] = .ok (.bl true) e := by
  have hr : Row s [.fz (s.map D.int), .int 0, .int 3227, .int 0] := ⟨0, 3227, 0, rfl, by decide, by decide, by decide, by decide⟩
  obtain ⟨qs, c1, e1, r1, g1, g2, g3⟩ := gen17 (fu := fu) (n := n) hs hr
  obtain ⟨ps, c2, e2, r2, hp, hl⟩ := s20 (fu := fu) (n := n + 2) (Nat.lt_trans (by decide) hfu) hs r1 g1 g2 (by omega)
  have e2 : cl fu (n + 5) 20 [.own c1, .val (.tup (lp qs))] = .ok (.tup (lp ps)) c2 := e2
  obtain ⟨j, hj, c3, e3, r3⟩ := s11 (fu := fu) (n := n + 3) s c2 [.int 1, .int 3, .int 5] hs r2 (by decide) (by decide)
  obtain ⟨m, ez, mo, m5⟩ : ∃ z : Nat, [D.int 1, .int 3, .int 5][j] = .int (z : Nat) ∧ z % 2 = 1 ∧ z ≤ 5 := by
    match j, hj with
    | 0, _ => exact ⟨1, rfl, by decide, by decide⟩
    | 1, _ => exact ⟨3, rfl, by decide, by decide⟩
    | 2, _ => exact ⟨5, rfl, by decide, by decide⟩
  rw [ez] at e3
  have e3 : cl fu (n + 5) 11 [.own c2, .val (.lst [.int 1, .int 3, .int 5])] = .ok (.int (m : Nat)) c3 := e3
  obtain ⟨j, hj, c4, e4, r4⟩ := s11 (fu := fu) (n := n + 3) s c3 [.int 1, .int 3] hs r3 (by decide) (by decide)
  obtain ⟨q, ez, qo, q3⟩ : ∃ z : Nat, [D.int 1, .int 3][j] = .int (z : Nat) ∧ z % 2 = 1 ∧ z ≤ 3 := by
    match j, hj with
    | 0, _ => exact ⟨1, rfl, by decide, by decide⟩
    | 1, _ => exact ⟨3, rfl, by decide, by decide⟩
  rw [ez] at e4
  have e4 : cl fu (n + 5) 11 [.own c3, .val (.lst [.int 1, .int 3])] = .ok (.int (q : Nat)) c4 := e4
  have l8 : ps.length = 8 := by omega
  have sl1 := cut_takeT (ps := ps) (j := m) (by omega)
  have sl2 := cut_mid (ps := ps) (m := m) (q := q) (by omega)
  have lR : (ps.take m).length = m := by rw [List.length_take]; omega
  have lB : ((ps.drop m).take q).length = q := by rw [List.length_take, List.length_drop]; omega
  have app : ps.take m ++ (ps.drop m).take q = ps.take (m + q) := by rw [List.take_add]
  have oA : Oks (ps.take m ++ (ps.drop m).take q) := by
    rw [app]
    exact hp.sub (hp.gen.nd.sublist (List.take_sublist _ _)) fun a h => List.mem_of_mem_take h
  have dsj : ∀ a ∈ ps.take m, a ∉ (ps.drop m).take q := fun a h z => (List.nodup_append.mp oA.gen.nd).2.2 a h a z rfl
  obtain ⟨r, e5, i, j, p, b, rfl, hi, hj, t1, t2⟩ := both9 (fu := fu) (n := n) hfu oA (by omega) (by omega) (by rw [List.length_append]; omega) dsj
  generalize hR : ps.take m = Rd at *
  generalize hB : (ps.drop m).take q = Bl at *
  have ii := (List.getElem?_eq_some_iff.mp hi).1
  have jj := (List.getElem?_eq_some_iff.mp hj).1
  have pR := List.mem_of_getElem? hi
  have bB := List.mem_of_getElem? hj
  have gA := oA.gd
  have gp := gA p (List.mem_append_left _ pR)
  have gb := gA b (List.mem_append_right _ bB)
  have ai := at_pt hi
  have aj := at_pt hj
  have qR := len_ptsT (ps := Rd) (by omega)
  have qB := len_ptsT (ps := Bl) (by omega)
  have npb : p ≠ b := fun e => dsj p pR (by rw [e]; exact bB)
  have nz : ∀ S : List Pt, (∀ z ∈ S, z ∈ Rd ++ Bl) → ∀ z ∈ oth S p b, dbl p b z ≠ 0 := fun S hS z hz => by
    obtain ⟨z1, z2⟩ := List.mem_filter.mp hz
    have z2 := of_decide_eq_true z2
    exact oA.gen.g p (List.mem_append_left _ pR) b (List.mem_append_right _ bB) z (hS z z1) npb (fun e => z2 (by rw [← e]; simp)) (fun e => z2 (by rw [← e]; simp))
  rw [call_eq (F := en21.fn) rfl rfl]
  have x0 : denS (cx fu (n + 5)) (stm ir21 0) [some (.val (.fz (s.map D.int))), none, none, none, none, none, none, none, none, none, none, none, none] = .ok .nx [some (.val (.fz (s.map D.int))), some (.own [.fz (s.map D.int), .int 0, .int 3227, .int 0]), none, none, none, none, none, none, none, none, none, none, none] := by
    simp (config := { maxDischargeDepth := 20 }) only [runFn, Ent.fn, denS, den, denL, List.map, List.replicate, List.length_cons, List.length_nil, R.bind, R.of, R.way, D.tr, D.truth, getV, getO, ioOk, argsOf, afterCall, putIo, Option.isSome, Option.map, Option.bind, bindT, List.set, endOf, List.cons_append, List.nil_append, List.getElem?_cons_zero, List.getElem?_cons_succ, mul_L, add_L, sub_L, L.mul, L.sub, L.add, x_lst, x_tup, x_fz, c_lt, c_le, c_gt, c_ge, c_eq, c_ne, c_eqB, c_neB, c_isNI, c_isNB, p_int, p_abs, p_isInt, p_isIntB, p_isBool, p_isBoolB, p_isTup, p_isLst, p_isLstT, p_isSeqT, p_isSeqL, p_isSeqI, p_isSeqB, p_isStrI, p_isStrB, Nat.reduceAdd, Nat.reduceSub, decide_true, decide_false, Bool.not_true, Bool.not_false, Bool.not_not, stm, ir21, lim4, ↓reduceIte]
  have x1 : denS (cx fu (n + 5)) (stm ir21 1) [some (.val (.fz (s.map D.int))), some (.own [.fz (s.map D.int), .int 0, .int 3227, .int 0]), none, none, none, none, none, none, none, none, none, none, none] = .ok .nx [some (.val (.fz (s.map D.int))), some (.own c2), some (.val (.tup (lp ps))), none, none, none, none, none, none, none, none, none, none] := by
    simp (config := { maxDischargeDepth := 20 }) only [runFn, denS, den, denL, List.map, List.replicate, List.length_cons, List.length_nil, R.bind, R.of, R.way, D.tr, D.truth, getV, getO, ioOk, argsOf, afterCall, putIo, Option.isSome, Option.map, Option.bind, bindT, List.set, endOf, List.cons_append, List.nil_append, List.getElem?_cons_zero, List.getElem?_cons_succ, mul_L, add_L, sub_L, L.mul, L.sub, L.add, x_lst, x_tup, x_fz, c_lt, c_le, c_gt, c_ge, c_eq, c_ne, c_eqB, c_neB, c_isNI, c_isNB, p_int, p_abs, p_isInt, p_isIntB, p_isBool, p_isBoolB, p_isTup, p_isLst, p_isLstT, p_isSeqT, p_isSeqL, p_isSeqI, p_isSeqB, p_isStrI, p_isStrB, Nat.reduceAdd, Nat.reduceSub, decide_true, decide_false, Bool.not_true, Bool.not_false, Bool.not_not, stm, ir21, e1, e2]
  have x2 : denS (cx fu (n + 5)) (stm ir21 2) [some (.val (.fz (s.map D.int))), some (.own c2), some (.val (.tup (lp ps))), none, none, none, none, none, none, none, none, none, none] = .ok .nx [some (.val (.fz (s.map D.int))), some (.own c3), some (.val (.tup (lp ps))), some (.val (.int (m : Nat))), none, none, none, none, none, none, none, none, none] := by
    simp (config := { maxDischargeDepth := 20 }) only [runFn, denS, den, denL, List.map, List.replicate, List.length_cons, List.length_nil, R.bind, R.of, R.way, D.tr, D.truth, getV, getO, ioOk, argsOf, afterCall, putIo, Option.isSome, Option.map, Option.bind, bindT, List.set, endOf, List.cons_append, List.nil_append, List.getElem?_cons_zero, List.getElem?_cons_succ, mul_L, add_L, sub_L, L.mul, L.sub, L.add, x_lst, x_tup, x_fz, c_lt, c_le, c_gt, c_ge, c_eq, c_ne, c_eqB, c_neB, c_isNI, c_isNB, p_int, p_abs, p_isInt, p_isIntB, p_isBool, p_isBoolB, p_isTup, p_isLst, p_isLstT, p_isSeqT, p_isSeqL, p_isSeqI, p_isSeqB, p_isStrI, p_isStrB, Nat.reduceAdd, Nat.reduceSub, decide_true, decide_false, Bool.not_true, Bool.not_false, Bool.not_not, stm, ir21, e3, lim3, ↓reduceIte]
  have x3 : denS (cx fu (n + 5)) (stm ir21 3) [some (.val (.fz (s.map D.int))), some (.own c3), some (.val (.tup (lp ps))), some (.val (.int (m : Nat))), none, none, none, none, none, none, none, none, none] = .ok .nx [some (.val (.fz (s.map D.int))), some (.own c4), some (.val (.tup (lp ps))), some (.val (.int (m : Nat))), some (.val (.tup (lp Rd))), some (.val (.tup (lp Bl))), none, none, none, none, none, none, none] := by
    simp (config := { maxDischargeDepth := 20 }) only [runFn, denS, den, denL, List.map, List.replicate, List.length_cons, List.length_nil, R.bind, R.of, R.way, D.tr, D.truth, getV, getO, ioOk, argsOf, afterCall, putIo, Option.isSome, Option.map, Option.bind, bindT, List.set, endOf, List.cons_append, List.nil_append, List.getElem?_cons_zero, List.getElem?_cons_succ, mul_L, add_L, sub_L, L.mul, L.sub, L.add, x_lst, x_tup, x_fz, c_lt, c_le, c_gt, c_ge, c_eq, c_ne, c_eqB, c_neB, c_isNI, c_isNB, p_int, p_abs, p_isInt, p_isIntB, p_isBool, p_isBoolB, p_isTup, p_isLst, p_isLstT, p_isSeqT, p_isSeqL, p_isSeqI, p_isSeqB, p_isStrI, p_isStrB, Nat.reduceAdd, Nat.reduceSub, decide_true, decide_false, Bool.not_true, Bool.not_false, Bool.not_not, stm, ir21, e4, sl1, sl2, partR, noneB, lim2, ↓reduceIte]
  have x4 : denS (cx fu (n + 5)) (stm ir21 4) [some (.val (.fz (s.map D.int))), some (.own c4), some (.val (.tup (lp ps))), some (.val (.int (m : Nat))), some (.val (.tup (lp Rd))), some (.val (.tup (lp Bl))), none, none, none, none, none, none, none] = .ok .nx [some (.val (.fz (s.map D.int))), some (.own c4), some (.val (.tup (lp ps))), some (.val (.int (m : Nat))), some (.val (.tup (lp Rd))), some (.val (.tup (lp Bl))), some (.val (pd i j)), none, none, none, none, none, none] := by
    simp (config := { maxDischargeDepth := 20 }) only [runFn, denS, den, denL, List.map, List.replicate, List.length_cons, List.length_nil, R.bind, R.of, R.way, D.tr, D.truth, getV, getO, ioOk, argsOf, afterCall, putIo, Option.isSome, Option.map, Option.bind, bindT, List.set, endOf, List.cons_append, List.nil_append, List.getElem?_cons_zero, List.getElem?_cons_succ, mul_L, add_L, sub_L, L.mul, L.sub, L.add, x_lst, x_tup, x_fz, c_lt, c_le, c_gt, c_ge, c_eq, c_ne, c_eqB, c_neB, c_isNI, c_isNB, p_int, p_abs, p_isInt, p_isIntB, p_isBool, p_isBoolB, p_isTup, p_isLst, p_isLstT, p_isSeqT, p_isSeqL, p_isSeqI, p_isSeqB, p_isStrI, p_isStrB, Nat.reduceAdd, Nat.reduceSub, decide_true, decide_false, Bool.not_true, Bool.not_false, Bool.not_not, stm, ir21, e5]
  have x5 : denS (cx fu (n + 5)) (stm ir21 5) [some (.val (.fz (s.map D.int))), some (.own c4), some (.val (.tup (lp ps))), some (.val (.int (m : Nat))), some (.val (.tup (lp Rd))), some (.val (.tup (lp Bl))), some (.val (pd i j)), none, none, none, none, none, none] = .ok .nx [some (.val (.fz (s.map D.int))), some (.own c4), some (.val (.tup (lp ps))), some (.val (.int (m : Nat))), some (.val (.tup (lp Rd))), some (.val (.tup (lp Bl))), some (.val (pd i j)), none, none, none, none, none, none] := by
    unfold pd
    have d2 : decide ((2 : Int) = 2) = true := by decide
    simp (config := { maxDischargeDepth := 20 }) only [runFn, denS, den, denL, List.map, List.replicate, List.length_cons, List.length_nil, R.bind, R.of, R.way, D.tr, D.truth, getV, getO, ioOk, argsOf, afterCall, putIo, Option.isSome, Option.map, Option.bind, bindT, List.set, endOf, List.cons_append, List.nil_append, List.getElem?_cons_zero, List.getElem?_cons_succ, mul_L, add_L, sub_L, L.mul, L.sub, L.add, x_lst, x_tup, x_fz, c_lt, c_le, c_gt, c_ge, c_eq, c_ne, c_eqB, c_neB, c_isNI, c_isNB, p_int, p_abs, p_isInt, p_isIntB, p_isBool, p_isBoolB, p_isTup, p_isLst, p_isLstT, p_isSeqT, p_isSeqL, p_isSeqI, p_isSeqB, p_isStrI, p_isStrB, Nat.reduceAdd, Nat.reduceSub, decide_true, decide_false, Bool.not_true, Bool.not_false, Bool.not_not, stm, ir21, len2, d2]
  have x6 : denS (cx fu (n + 5)) (stm ir21 6) [some (.val (.fz (s.map D.int))), some (.own c4), some (.val (.tup (lp ps))), some (.val (.int (m : Nat))), some (.val (.tup (lp Rd))), some (.val (.tup (lp Bl))), some (.val (pd i j)), none, none, none, none, none, none] = .ok .nx [some (.val (.fz (s.map D.int))), some (.own c4), some (.val (.tup (lp ps))), some (.val (.int (m : Nat))), some (.val (.tup (lp Rd))), some (.val (.tup (lp Bl))), some (.val (pd i j)), none, none, none, none, none, none] := by
    have lc := lc_nm (C := cx fu (n + 5)) (i := 11) (src := .items (.var 6)) (cond := .or (.not (.isi .isInt (.var 11))) (.isi .isBool (.var 11))) (elt := .var 11) (e := [some (.val (.fz (s.map D.int))), some (.own c4), some (.val (.tup (lp ps))), some (.val (.int (m : Nat))), some (.val (.tup (lp Rd))), some (.val (.tup (lp Bl))), some (.val (pd i j)), none, none, none, none, none, none]) (ds := [.int (i : Int), .int (j : Int)]) (p := fun _ => false) (g := id) rfl rfl (fun d hd => by
      rcases List.mem_cons.mp hd with rfl | hd
      · rfl
      · rw [List.mem_singleton.mp hd]; rfl) (fun d hd h => by cases h) (by show 2 ≤ 16000000; omega)
    have e0 : (([D.int (i : Int), .int (j : Int)]).filter fun _ => false).map id = [] := rfl
    rw [e0] at lc
    show (((den (cx fu (n + 5)) (.lc [11] (.nm 11) (.items (.var 6)) (.or (.not (.isi .isInt (.var 11))) (.isi .isBool (.var 11))) (.var 11)) _).bind fun x e => (den (cx fu (n + 5)) (.lst .nil) e).bind fun y e => R.of ((cmpop .ne x y).map D.bl) e).bind fun x e => R.way x (denS (cx fu (n + 5)) (.cons (.ret (.lit (.bl false))) .nil) e) (denS (cx fu (n + 5)) .nil e)) = _
    rw [lc]
    rfl
  have x7 : denS (cx fu (n + 5)) (stm ir21 7) [some (.val (.fz (s.map D.int))), some (.own c4), some (.val (.tup (lp ps))), some (.val (.int (m : Nat))), some (.val (.tup (lp Rd))), some (.val (.tup (lp Bl))), some (.val (pd i j)), none, none, none, none, none, none] = .ok .nx [some (.val (.fz (s.map D.int))), some (.own c4), some (.val (.tup (lp ps))), some (.val (.int (m : Nat))), some (.val (.tup (lp Rd))), some (.val (.tup (lp Bl))), some (.val (pd i j)), none, none, none, none, none, none] := by
    have i0 : ixop (pd i j) (.int 0) = some (.int (i : Int)) := rfl
    have i1 : ixop (pd i j) (.int 1) = some (.int (j : Int)) := rfl
    have d1 : decide ((0 : Int) ≤ (i : Int)) = true := decide_eq_true (by omega)
    have d2 : decide ((i : Int) < (Rd.length : Int)) = true := decide_eq_true (by omega)
    have d3 : decide ((0 : Int) ≤ (j : Int)) = true := decide_eq_true (by omega)
    have d4 : decide ((j : Int) < (Bl.length : Int)) = true := decide_eq_true (by omega)
    generalize pd i j = P at *
    simp (config := { maxDischargeDepth := 20 }) only [runFn, denS, den, denL, List.map, List.replicate, List.length_cons, List.length_nil, R.bind, R.of, R.way, D.tr, D.truth, getV, getO, ioOk, argsOf, afterCall, putIo, Option.isSome, Option.map, Option.bind, bindT, List.set, endOf, List.cons_append, List.nil_append, List.getElem?_cons_zero, List.getElem?_cons_succ, mul_L, add_L, sub_L, L.mul, L.sub, L.add, x_lst, x_tup, x_fz, c_lt, c_le, c_gt, c_ge, c_eq, c_ne, c_eqB, c_neB, c_isNI, c_isNB, p_int, p_abs, p_isInt, p_isIntB, p_isBool, p_isBoolB, p_isTup, p_isLst, p_isLstT, p_isSeqT, p_isSeqL, p_isSeqI, p_isSeqB, p_isStrI, p_isStrB, Nat.reduceAdd, Nat.reduceSub, decide_true, decide_false, Bool.not_true, Bool.not_false, Bool.not_not, stm, ir21, i0, i1, qR, qB, d1, d2, d3, d4]
  have x8 : denS (cx fu (n + 5)) (stm ir21 8) [some (.val (.fz (s.map D.int))), some (.own c4), some (.val (.tup (lp ps))), some (.val (.int (m : Nat))), some (.val (.tup (lp Rd))), some (.val (.tup (lp Bl))), some (.val (pd i j)), none, none, none, none, none, none] = .ok .nx (vE (.fz (s.map D.int)) c4 ps m Rd Bl (pd i j) p b none none) := by
    have i0 : ixop (pd i j) (.int 0) = some (.int (i : Int)) := rfl
    have i1 : ixop (pd i j) (.int 1) = some (.int (j : Int)) := rfl
    unfold vE
    generalize pd i j = P at *
    simp (config := { maxDischargeDepth := 20 }) only [runFn, denS, den, denL, List.map, List.replicate, List.length_cons, List.length_nil, R.bind, R.of, R.way, D.tr, D.truth, getV, getO, ioOk, argsOf, afterCall, putIo, Option.isSome, Option.map, Option.bind, bindT, List.set, endOf, List.cons_append, List.nil_append, List.getElem?_cons_zero, List.getElem?_cons_succ, mul_L, add_L, sub_L, L.mul, L.sub, L.add, x_lst, x_tup, x_fz, c_lt, c_le, c_gt, c_ge, c_eq, c_ne, c_eqB, c_neB, c_isNI, c_isNB, p_int, p_abs, p_isInt, p_isIntB, p_isBool, p_isBoolB, p_isTup, p_isLst, p_isLstT, p_isSeqT, p_isSeqL, p_isSeqI, p_isSeqB, p_isStrI, p_isStrB, Nat.reduceAdd, Nat.reduceSub, decide_true, decide_false, Bool.not_true, Bool.not_false, Bool.not_not, stm, ir21, i0, i1, ai, aj, denRow, slsOf, slOf, putRow]
  obtain ⟨t1', y1, _⟩ := sb_ok (fu := fu) (n := n) (ps := ps) (v0 := .fz (s.map D.int)) (f := pd i j) (cs := c4) (m := m) (RL := Rd) (BL := Bl) (S := Rd) (a := p) (b := b) (s10 := none) (fun z h => gA z (List.mem_append_left _ h)) gp gb (by omega) (nz Rd fun z h => List.mem_append_left _ h) t1
  obtain ⟨t2', y2, _⟩ := sb_ok (fu := fu) (n := n) (ps := ps) (v0 := .fz (s.map D.int)) (f := pd i j) (cs := c4) (m := m) (RL := Rd) (BL := Bl) (S := Bl) (a := p) (b := b) (s10 := t1') (fun z h => gA z (List.mem_append_right _ h)) gp gb (by omega) (nz Bl fun z h => List.mem_append_right _ h) t2
  have x9 : denS (cx fu (n + 5)) (stm ir21 9) (vE (.fz (s.map D.int)) c4 ps m Rd Bl (pd i j) p b none none) = .ok .nx (vE (.fz (s.map D.int)) c4 ps m Rd Bl (pd i j) p b (some (.val (.tup (lp Bl)))) t2') := by
    show denS (cx fu (n + 5)) (.for_ (.nm 9) (.items (.lst (.cons (.var 4) (.cons (.var 5) .nil)))) sb) _ = _
    refine s_for (ds := [.tup (lp Rd), .tup (lp Bl)]) ?_ ?_
    · unfold vE
      simp (config := { maxDischargeDepth := 20 }) only [runFn, denS, den, denL, List.map, List.replicate, List.length_cons, List.length_nil, R.bind, R.of, R.way, D.tr, D.truth, getV, getO, ioOk, argsOf, afterCall, putIo, Option.isSome, Option.map, Option.bind, bindT, List.set, endOf, List.cons_append, List.nil_append, List.getElem?_cons_zero, List.getElem?_cons_succ, mul_L, add_L, sub_L, L.mul, L.sub, L.add, x_lst, x_tup, x_fz, c_lt, c_le, c_gt, c_ge, c_eq, c_ne, c_eqB, c_neB, c_isNI, c_isNB, p_int, p_abs, p_isInt, p_isIntB, p_isBool, p_isBoolB, p_isTup, p_isLst, p_isLstT, p_isSeqT, p_isSeqL, p_isSeqI, p_isSeqB, p_isStrI, p_isStrB, Nat.reduceAdd, Nat.reduceSub, decide_true, decide_false, Bool.not_true, Bool.not_false, Bool.not_not, lim2, ↓reduceIte]
    · have b1 : bindT (.nm 9) (.tup (lp Rd)) (vE (.fz (s.map D.int)) c4 ps m Rd Bl (pd i j) p b none none) = some (vE (.fz (s.map D.int)) c4 ps m Rd Bl (pd i j) p b (some (.val (.tup (lp Rd)))) none) := rfl
      have b2 : bindT (.nm 9) (.tup (lp Bl)) (vE (.fz (s.map D.int)) c4 ps m Rd Bl (pd i j) p b (some (.val (.tup (lp Rd)))) t1') = some (vE (.fz (s.map D.int)) c4 ps m Rd Bl (pd i j) p b (some (.val (.tup (lp Bl)))) t1') := rfl
      unfold loopF
      rw [b1]
      show (denS (cx fu (n + 5)) sb _).bind _ = _
      rw [y1]
      show loopF (.nm 9) (denS (cx fu (n + 5)) sb) [.tup (lp Bl)] _ = _
      unfold loopF
      rw [b2]
      show (denS (cx fu (n + 5)) sb _).bind _ = _
      rw [y2]
      rfl
  have kk : denS (cx fu (n + 5)) ir21 [some (.val (.fz (s.map D.int))), none, none, none, none, none, none, none, none, none, none, none, none] = .ok (.rt (.bl true)) (vE (.fz (s.map D.int)) c4 ps m Rd Bl (pd i j) p b (some (.val (.tup (lp Bl)))) t2') := by
    show denS (cx fu (n + 5)) (drp ir21 0) _ = _
    refine Eq.trans (step rfl x0) ?_
    refine Eq.trans (step rfl x1) ?_
    refine Eq.trans (step rfl x2) ?_
    refine Eq.trans (step rfl x3) ?_
    refine Eq.trans (step rfl x4) ?_
    refine Eq.trans (step rfl x5) ?_
    refine Eq.trans (step rfl x6) ?_
    refine Eq.trans (step rfl x7) ?_
    refine Eq.trans (step rfl x8) ?_
    refine Eq.trans (step rfl x9) ?_
    rfl
  exact ⟨[], (run_rt kk).trans rfl⟩
theorem plain : Plain 6 (2 ^ 200) := fun ns h => law_ok (n := 0) h (by decide)
end Lw
theorem PySem.Challenge.cw_meshcore_k27_whole_halving_both_holds : PySem.Challenge.rw_meshcore_k27_whole_halving_both.Holds :=
  Lw.holds (depth := 6) ⟨rfl, by decide, by decide⟩ Lw.plain
