import PyProof.Rows.All
import PySem.Str
import PyProof.ReprReads
import KE.IntText
import Wide.All
import OpenK.AllK
import Wide.FinOn
import HandS.ForMost
import HandS.Wide
import HandS.Style
import HandS.TupAny
import HandS.Defaults
import HandS.Exc
import HandS.TupMul
import HandS.IsInst
import HandS.RaiseMore
import PyProof.ReprLen
import PyProof.ReprRoads
import PyProof.CallFns
import HandS.HeadEnd
import KE.KDictItemsList
import HandS.Comp
import HandS.Dict
import HandS.DictComp
import HandS.DictTup
import HandS.ListItems
import HandS.List
import HandS.Conv
import HandS.TupLen
import HandS.Property
import HandS.FStr
import HandS.Star
import HandS.Zip
import PyProof.TupleOfStr
import HandS.SetFor
import HandS.Strs
import HandS.Head0
import HandS.Head1
import HandS.Head2
import HandS.HeadHook1
import HandS.HeadHook2
import HandS.HeadHook4
import HandS.Codes
import PySem.Challenge.RW_sizesreckoned_k04_whole_worths_of_sizes
/-! A small interpreter over plain values for the part of Python that the program uses. No model in sight here. -/
namespace Pyi
open PySem

/-- a plain value: tuples, lists that nobody changes, dicts that nobody changes and finished instances are trees -/
inductive Val where
  | non | bl (b : Bool) | int (i : Int) | str (x : Str)
  | tup (vs : List Val) | lst (vs : List Val)
  | scr (ns : List Int)
  | dct (ks vs : List Val)
  | inst (c : Nat) (ns : List Str) (vs : List Val)
  | exn (c : Nat) (v : Val)
  | ref (n : Nat)
  deriving Inhabited

/-- an object that changes -/
inductive MObj where
  | lst (vs : List Val)
  | ins (c : Nat) (ns : List Str) (vs : List Val)
abbrev Hs := List MObj

/-- what a name of the frame holds: a value, or a list (a dict, an instance in its making) that it alone holds -/
inductive Slot where
  | v (x : Val)
  | own (vs : List Val)
  | ownD (ks vs : List Val)
  | ownI (c : Nat) (ns : List Str) (vs : List Val)
abbrev Env := List (Option Slot)

inductive Out (α : Type) where
  | ok (a : α) (h : Hs)
  | exc (c : Nat) (v : Val) (h : Hs)
  | bad

@[simp] def Out.bind {α β : Type} : Out α → (α → Hs → Out β) → Out β
  | .ok a h, f => f a h
  | .exc c v h, _ => .exc c v h
  | .bad, _ => .bad

/-! ### the text -/
inductive Lit where
  | non | bl (b : Bool) | int (i : Int) | str (x : Str)
def Lit.val : Lit → Val
  | .non => .non
  | .bl b => .bl b
  | .int i => .int i
  | .str x => .str x
inductive BOp where
  | add | sub | mul | fdiv | mod | pow
  deriving DecidableEq
inductive COp where
  | eq | ne | lt | le | gt | ge | is_ | isnot | in_ | notin
  deriving DecidableEq
inductive Ty where
  | int | bool | str | tuple | list
  | own (c : Nat)
/-- built-in functions of values -/
inductive Bi where
  | len | int_ | abs | str_ | repr | tuple_ | sum | all_ | any_ | max_ | min_
  deriving DecidableEq
inductive Tg where
  | v (i : Nat)
  | t (l : List Tg)

mutual
inductive E where
  | lit (l : Lit)
  | glb (x : Str) (l : Lit)
  | var (i : Nat)
  | bin (o : BOp) (a b : E)
  | neg (a : E)
  | not_ (a : E)
  | and_ (a b : E)
  | or_ (a b : E)
  | ite (c a b : E)
  | cmp (o : COp) (a b : E)
  | chn (o p : COp) (a b c : E)
  | tup (es : List E)
  | idx (a i : E)
  | slc (a : E) (lo hi : Option E)
  | rev (a : E)
  | call (f : Nat) (es : List E) (ds : List Lit)
  | bi (b : Bi) (es : List E)
  | isi (a : E) (t : Ty)
  | fr (f : FE)
  | mk (f : FE)
  | olen (i : Nat)
  | oidx (i : Nat) (e : E)
  | oemp (i : Nat) (pos : Bool)
  | lenDC (k : E) (tg : Tg) (it : It)
  | lenSet (f : FE)
  | fld (a : E) (x : Str)
  | prop (n : Nat) (a : E)
  | meth (n : Nat) (a : E) (es : List E) (ds : List Lit)
  | new (n : Nat) (es : List E) (ds : List Lit)
  | join (a b : E)
  | fstr (es : List E)
  | star (a : E)
  | dcomp (k v : E) (tg : Tg) (it : It)
  | dget (d k e : E)
  | eqI (n : Nat) (neg : Bool) (a b : E)
  | lenI (n : Nat) (a : E)
  | dsp (ns : List Str) (es : List E)
  | oget (i : Nat) (k e : E)
  | otup (i : Nat)
/-- a list just made -/
inductive FE where
  | lst (es : List E)
  | of (e : E)
  | ofIt (it : It)
  | items (i : Nat)
  | lstS (es : List E)
  | split (a b : E)
  | rep (f : FE) (e : E)
  | cat (a b : E)
  | sset (e : E)
  | comp (e : E) (tg : Tg) (it : It) (cs : List E)
  | comp2 (e : E) (tg : Tg) (it : It) (tg2 : Tg) (it2 : It) (cs : List E)
/-- what is walked -/
inductive It where
  | seq (e : E)
  | rng1 (b : E)
  | rng2 (a b : E)
  | enum (e : E)
  | zip (a b : E)
end

/-- a part of a parallel assignment: a value, a list of the frame's own -/
inductive PItem where
  | v (e : E)
  | o (f : FE)
inductive S where
  | set (i : Nat) (e : E)
  | tset (tg : Tg) (e : E)
  | par (is : List Nat) (es : List E)
  | unK (is : List Nat) (x : Str) (ns : List Int)
  | own (i : Nat) (f : FE)
  | ownD (i : Nat)
  | frz (i : Nat)
  | app (i : Nat) (e : E)
  | appPop (i j : Nat) (e : E)
  | setI (a i e : E)
  | oset (x : Nat) (i e : E)
  | dset (x : Nat) (k e : E)
  | aug (i : Nat) (o : BOp) (e : E)
  | ret (e : E)
  | retN
  | if_ (c : E) (a b : List S)
  | for_ (tg : Tg) (it : It) (b : List S)
  | while_ (c : E) (b : List S)
  | raise (c : Nat) (e : E)
  | ex (e : E)
  | pass
  | nev
  | fset (i c : Nat) (x : Str) (e : E)
  | ext (i : Nat) (f : FE)
  | parO (is : List Nat) (ps : List PItem)
  | setD (i : Nat) (k v : E) (tg : Tg) (it : It)
  | wthR (i d k v : Nat)

structure FDef where
  ps : Nat
  n : Nat
  body : List S

/-- what a number stands for: a def, a name to be looked up by the class, a class's making -/
inductive Def where
  | fn (d : FDef)
  | disp (l : List (Nat × Nat))
  | mk (c : Nat) (d : FDef)
/-! ### values -/
mutual
/-- is it data that == looks through: no dict, no object -/
def isD : Val → Bool
  | .non => true | .bl _ => true | .int _ => true | .str _ => true
  | .tup vs => isDs vs
  | .lst vs => isDs vs
  | _ => false
def isDs : List Val → Bool
  | [] => true
  | v :: vs => isD v && isDs vs
end
mutual
def dep : Val → Nat
  | .tup vs => deps vs + 1
  | .lst vs => deps vs + 1
  | _ => 0
def deps : List Val → Nat
  | [] => 0
  | v :: vs => max (dep v) (deps vs)
end
/-- all signs are scalar values -/
def sOk (x : Str) : Bool := x.cps.all fun c => decide (c < 1114112)
mutual
def veq : Val → Val → Bool
  | .non, w => match w with | .non => true | _ => false
  | .bl a, w => match w with | .bl b => a == b | .int j => (if a then 1 else 0) == j | _ => false
  | .int i, w => match w with | .int j => i == j | .bl b => i == (if b then 1 else 0) | _ => false
  | .str x, w => match w with | .str y => x == y | _ => false
  | .tup vs, w => match w with | .tup ws => veqs vs ws | _ => false
  | .lst vs, w => match w with | .lst ws => veqs vs ws | _ => false
  | _, _ => false
def veqs : List Val → List Val → Bool
  | [], ws => match ws with | [] => true | _ => false
  | v :: vs, ws => match ws with | w :: ws => veq v w && veqs vs ws | [] => false
end
/-- t < u of tuples of ints -/
def lexLt : List Int → List Int → Bool
  | [], [] => false
  | [], _ :: _ => true
  | _ :: _, [] => false
  | x :: xs, y :: ys => if x = y then lexLt xs ys else decide (x < y)

end Pyi
namespace Pyi
open PySem PyProof.Rows

/-- ints that may be multiplied -/
def sm (i : Int) : Bool := decide (i.natAbs < 2 ^ 400000)
/-- lists that may stand -/
def most : Nat := 1000000

/-! ### operators -/
def intsOf : List Val → Option (List Int)
  | [] => some []
  | .int i :: r => (intsOf r).map (i :: ·)
  | _ => none
def boolsOf : List Val → Option (List Bool)
  | [] => some []
  | .bl b :: r => (boolsOf r).map (b :: ·)
  | _ => none
def strsOf : List Val → Option (List Str)
  | [] => some []
  | .str b :: r => (strsOf r).map (b :: ·)
  | _ => none
def binop : BOp → Val → Val → Option Val
  | .add, .int i, .int j => some (.int (i + j))
  | .add, .int i, .bl b => some (.int (i + if b then 1 else 0))
  | .add, .str x, .str y => if x.length + y.length ≤ most then some (.str (x ++ y)) else none
  | .add, .tup xs, .tup ys => if xs.length + ys.length ≤ most then some (.tup (xs ++ ys)) else none
  | .sub, .int i, .int j => some (.int (i - j))
  | .mul, .int i, .int j => if sm i && sm j then some (.int (i * j)) else none
  | .mul, .tup vs, .int k => if (decide (0 < vs.length) && decide (vs.length ≤ 1000)) && (decide (2 ≤ k) && decide (k ≤ 1000)) then some (.tup (List.replicate k.toNat vs).flatten) else none
  | .fdiv, .int i, .int j => if decide (0 < j) && decide (j < 2 ^ 9000) then some (.int (i / j)) else none
  | .mod, .int i, .int j => if decide (0 < j) then some (.int (i % j)) else none
  | .pow, .int i, .int j => if decide (0 ≤ j) && (decide (j ≤ 100) && decide (i.natAbs < 2 ^ 100000)) then some (.int (i ^ j.toNat)) else none
  | _, _, _ => none
def cmpI : COp → Int → Int → Option Bool
  | .lt, i, j => some (decide (i < j))
  | .le, i, j => some (decide (i ≤ j))
  | .gt, i, j => some (decide (j < i))
  | .ge, i, j => some (decide (j ≤ i))
  | _, _, _ => none
/-- is it data with depth in the line -/
def eqOk (v : Val) : Bool := isD v && decide (dep v ≤ 60)
mutual
def strsOk : Val → Bool
  | .str x => sOk x
  | .tup vs => strsOks vs
  | .lst vs => strsOks vs
  | _ => true
def strsOks : List Val → Bool
  | [] => true
  | v :: vs => strsOk v && strsOks vs
end
def isNon : Val → Bool
  | .non => true
  | _ => false
/-- v in w -/
def inL (v : Val) (ws : List Val) : Option Bool := if (eqOk v && strsOk v) && ws.all (fun w => eqOk w && strsOk w) then some (ws.any fun w => veq w v) else none
def inV : Val → Val → Option Bool
  | .str x, .str y => some (!(Builtin.Str.occurrences y x 0 y.length 1).isEmpty)
  | v, .tup ws => inL v ws
  | v, .lst ws => inL v ws
  | _, _ => none
def cmpop : COp → Val → Val → Option Bool
  | .lt, .int i, .int j => some (decide (i < j))
  | .le, .int i, .int j => some (decide (i ≤ j))
  | .gt, .int i, .int j => some (decide (j < i))
  | .ge, .int i, .int j => some (decide (j ≤ i))
  | .is_, v, .non => some (isNon v)
  | .isnot, v, .non => some (!isNon v)
  | .is_, .bl a, .bl b => some (a == b)
  | .isnot, .bl a, .bl b => some (a != b)
  | .eq, v, w => if eqOk v && eqOk w && (strsOk v && strsOk w) then some (veq v w) else none
  | .ne, v, w => if eqOk v && eqOk w && (strsOk v && strsOk w) then some (!veq v w) else none
  | .in_, v, w => inV v w
  | .notin, v, w => (inV v w).map (!·)
  | _, _, _ => none
/-- the place that an index means -/
def ixN (n : Nat) (i : Int) : Option Nat := if 0 ≤ i then (if i < n then some i.toNat else none) else if -(n : Int) ≤ i then some (i + n).toNat else none
def atI {α : Type} (xs : List α) (i : Int) : Option α := (ixN xs.length i).bind fun j => xs[j]?
def getI : Val → Val → Option Val
  | .tup xs, .int i => atI xs i
  | .lst xs, .int i => atI xs i
  | .scr ns, .int i => (atI ns i).map .int
  | .str z, .int i => if z.length ≤ most then (atI z.cps.toList i).map fun c => .str ⟨#[c]⟩ else none
  | _, _ => none
/-- a key among the keys of a dict: ints, texts, tuples of these -/
def keyEq : Val → Val → Bool
  | .int i, .int j => i == j
  | .str x, .str y => x == y
  | .tup xs, .tup ys => veqs xs ys
  | _, _ => false
def dget : List Val → List Val → Val → Option Val
  | k :: ks, v :: vs, x => if keyEq k x then some v else dget ks vs x
  | _, _, _ => none
def flatK : Val → Bool
  | .int _ => true
  | .str x => sOk x
  | _ => false
/-- the same where it may be a list that changes -/
def getH (h : Hs) : Val → Val → Option Val
  | .ref n, .int k => match h[n]? with
    | some (.lst vs) => atI vs k
    | _ => none
  | .dct ks vs, k => if flatK k then dget ks vs k else none
  | x, y => getI x y
/-- a slice's bound as a place among n -/
def sIx (n d : Nat) : Option Int → Nat
  | none => d
  | some v => if v < 0 then (v + (n : Int)).toNat else min v.toNat n
def cut {α : Type} (xs : List α) (lo hi : Option Int) : List α := (xs.drop (sIx xs.length 0 lo)).take (sIx xs.length xs.length hi - sIx xs.length 0 lo)
def getS : Val → Option Int → Option Int → Option Val
  | .tup xs, lo, hi => some (.tup (cut xs lo hi))
  | .lst xs, lo, hi => some (.lst (cut xs lo hi))
  | .str z, lo, hi => if z.length ≤ most then some (.str ⟨(cut z.cps.toList lo hi).toArray⟩) else none
  | _, _, _ => none
def getR : Val → Option Val
  | .tup xs => some (.tup xs.reverse)
  | _ => none
/-- two instances of one class -/
def sameC : Val → Val → Option Unit
  | .inst c _ _, .inst d _ _ => if c = d then some () else none
  | _, _ => none
def lstOf : Val → Option (List Val)
  | .lst xs => some xs
  | _ => none
/-- two lists, or two tuples -/
def twoOf : Val → Val → Option (List Val × List Val)
  | .lst xs, .lst ys => some (xs, ys)
  | .tup xs, .tup ys => some (xs, ys)
  | _, _ => none
def itemsOf : Val → Option (List Val)
  | .tup xs => some xs
  | .lst xs => some xs
  | _ => none
/-- what is walked: also the signs of a text -/
def signsOf (x : Str) : List Val := x.cps.toList.map fun c => .str ⟨#[c]⟩
def walksOf : Val → Option (List Val)
  | .str x => some (signsOf x)
  | v => itemsOf v
/-! ### repr -/
mutual
def toD : Val → PyData
  | .bl b => .bool b
  | .int i => .int i
  | .str x => .str x
  | .tup vs => .tuple (toDs vs)
  | .lst vs => .list (toDs vs)
  | _ => .none
def toDs : List Val → List PyData
  | [] => []
  | v :: vs => toD v :: toDs vs
end
/-! how much is written of it at the most -/
mutual
def wt : Val → Nat
  | .str x => 10 * x.length + 4
  | .tup vs => wts vs + 4
  | .lst vs => wts vs + 4
  | _ => 2000
def wts : List Val → Nat
  | [] => 0
  | v :: vs => wt v + 2 + wts vs
end
mutual
def showI : Val → Bool
  | .int i => decide (i.natAbs < 2 ^ 1900)
  | .tup vs => showIs vs
  | .lst vs => showIs vs
  | _ => true
def showIs : List Val → Bool
  | [] => true
  | v :: vs => showI v && showIs vs
end
def reprOf (v : Val) : Option Str := if eqOk v && (strsOk v && (showI v && decide (wt v ≤ 10000000))) then some (toD v).shown else none
/-! ### built-in functions -/
def maxL : Int → List Int → Int
  | m, [] => m
  | m, x :: r => maxL (if x > m then x else m) r
def minL : Int → List Int → Int
  | m, [] => m
  | m, x :: r => minL (if x < m then x else m) r
def lenV : Val → Option Val
  | .tup xs => some (.int xs.length)
  | .lst xs => some (.int xs.length)
  | .scr xs => some (.int xs.length)
  | .str x => if x.length ≤ most then some (.int x.length) else none
  | _ => none
def intV : Val → Option Val
  | .int i => some (.int i)
  | .bl b => some (.int (if b then 1 else 0))
  | .str x => if x.length ≤ 640 then (intText? x).map .int else none
  | _ => none
def absV : Val → Option Val
  | .int i => some (.int (if i < 0 then -i else i))
  | _ => none
def strV : Val → Option Val
  | .int i => if decide (i.natAbs < 2 ^ 1900) then some (.str (toString i)) else none
  | .str x => some (.str x)
  | _ => none
def tupV : Val → Option Val
  | .lst xs => some (.tup xs)
  | .tup xs => some (.tup xs)
  | _ => none
def sumV : Val → Option Val
  | .lst xs => (intsOf xs).map fun ns => .int ns.sum
  | _ => none
def allV : Val → Option Val
  | .lst xs => (boolsOf xs).map fun bs => .bl (bs.all id)
  | _ => none
def anyV : Val → Option Val
  | .lst xs => (boolsOf xs).map fun bs => .bl (bs.any id)
  | _ => none
def maxV : Val → Option Val
  | .lst xs => (intsOf xs).bind fun ns => match ns with | [] => none | x :: r => some (.int (maxL x r))
  | _ => none
def minV : Val → Option Val
  | .lst xs => (intsOf xs).bind fun ns => match ns with | [] => none | x :: r => some (.int (minL x r))
  | _ => none
def bi1 : Bi → Val → Option Val
  | .len => lenV
  | .int_ => intV
  | .abs => absV
  | .str_ => strV
  | .repr => fun v => (reprOf v).map .str
  | .tuple_ => tupV
  | .sum => sumV
  | .all_ => allV
  | .any_ => anyV
  | .max_ => maxV
  | .min_ => minV
def maxW : Val → Val → Option Val
  | .int i, .int j => some (.int (if j > i then j else i))
  | _, _ => none
def minW : Val → Val → Option Val
  | .int i, .int j => some (.int (if j < i then j else i))
  | _, _ => none
def bi2 : Bi → Val → Val → Option Val
  | .max_ => maxW
  | .min_ => minW
  | _ => fun _ _ => none
def bicall (b : Bi) (vs : List Val) : Option Val := match vs with
  | [v] => bi1 b v
  | [v, w] => bi2 b v w
  | _ => none
def isiOf : Val → Ty → Option Bool
  | .non, .own _ => some false
  | .bl _, .own _ => some false
  | .int _, .own _ => some false
  | .str _, .own _ => some false
  | .tup _, .own _ => some false
  | .lst _, .own _ => some false
  | .dct _ _, .own _ => some false
  | .inst c _ _, .own c' => if c = c' then some true else none
  | .int _, .int => some true
  | .bl _, .int => some true
  | .bl _, .bool => some true
  | .str _, .str => some true
  | .tup _, .tuple => some true
  | .lst _, .list => some true
  | .non, _ => some false
  | .bl _, _ => some false
  | .int _, _ => some false
  | .str _, _ => some false
  | .tup _, _ => some false
  | .lst _, _ => some false
  | .dct _ _, _ => some false
  | _, _ => none

/-- a truth -/
def asB : Val → Option Bool
  | .bl b => some b
  | _ => none
def asI : Val → Option Int
  | .int i => some i
  | _ => none
def ofOpt {α : Type} (o : Option α) (h : Hs) : Out α := match o with
  | some a => .ok a h
  | none => .bad

/-! ### targets -/
mutual
def bindT : Tg → Val → Env → Option Env
  | .v i, x, e => some (e.set i (some (.v x)))
  | .t l, x, e => match x with
    | .tup vs => bindTs l vs e
    | _ => none
def bindTs : List Tg → List Val → Env → Option Env
  | [], vs, e => match vs with | [] => some e | _ => none
  | t :: ts, vs, e => match vs with
    | v :: vs => (bindT t v e).bind fun e => bindTs ts vs e
    | [] => none
end
mutual
def Tg.slots : Tg → List Nat
  | .v i => [i]
  | .t l => Tg.slotss l
def Tg.slotss : List Tg → List Nat
  | [] => []
  | g :: gs => g.slots ++ Tg.slotss gs
end
/-- the slots of a comprehension's own names forgotten -/
def wipeE (e : Env) : List Nat → Env
  | [] => e
  | i :: is => (wipeE e is).set i none

/-! ### walks -/
/-- no exception leaves a comprehension here -/
@[simp] def nx {α : Type} : Out α → Out α
  | .ok a h => .ok a h
  | .exc _ _ _ => .bad
  | .bad => .bad
def consO : Option Val → List Val → List Val
  | some x, r => x :: r
  | none, r => r
def mapF (g : Val → Hs → Out (Option Val)) : List Val → Hs → Out (List Val)
  | [], h => .ok [] h
  | v :: vs, h => (nx (g v h)).bind fun o h => (mapF g vs h).bind fun r h => .ok (consO o r) h
def mapL (g : Val → Hs → Out (List Val)) : List Val → Hs → Out (List Val)
  | [], h => .ok [] h
  | v :: vs, h => (nx (g v h)).bind fun o h => (mapL g vs h).bind fun r h => .ok (o ++ r) h
def rgOk (j : Int) : Bool := decide (-(2 ^ 62) ≤ j) && decide (j < 2 ^ 62)
def zipV : List Val → List Val → List Val
  | x :: xs, y :: ys => .tup [x, y] :: zipV xs ys
  | _, _ => []
def enumV : Nat → List Val → List Val
  | _, [] => []
  | n, x :: xs => .tup [.int n, x] :: enumV (n + 1) xs
def rngV (lo : Int) : Nat → List Val
  | 0 => []
  | n + 1 => .int lo :: rngV (lo + 1) n
def repl : List Val → List Val → Val → Val → List Val
  | k :: ks, v :: vs, x, y => (if keyEq k x then y else v) :: repl ks vs x y
  | _, _, _, _ => []
def dput (ks vs : List Val) (x y : Val) : List Val × List Val := if ks.any (fun k => keyEq k x) then (ks, repl ks vs x y) else (ks ++ [x], vs ++ [y])
/-- tuples of ints that may be keys -/
def keyT : Val → Bool
  | .tup vs => (intsOf vs).isSome
  | _ => false
def firstKs : List Val → List Val → List Val
  | acc, [] => acc
  | acc, k :: ks => firstKs (if acc.any (fun x => keyEq x k) then acc else acc ++ [k]) ks

def isStarE : E → Bool
  | .star _ => true
  | _ => false
/-- one part of a display -/
def insI (x : Int) : List Int → List Int
  | [] => [x]
  | y :: r => if x < y then x :: y :: r else if x = y then y :: r else y :: insI x r
/-- ascending, each once -/
def sortI : List Int → List Int
  | [] => []
  | x :: r => insI x (sortI r)
/-- sorted(set(x)) of a list of ints -/
def setL : Val → Option (List Val)
  | .lst xs => (intsOf xs).bind fun ns => if ns.length < 64 then some ((sortI ns).map .int) else none
  | _ => none
def spl : Bool → Val → Option (List Val)
  | false, x => some [x]
  | true, x => itemsOf x
def strsL : List Val → Option (List Str)
  | [] => some []
  | .str x :: r => (strsL r).map (x :: ·)
  | _ => none
/-- sep.join(xs) -/
def joinS (a : Str) (ys : List Str) : Option Val := if (ys.map (·.length)).sum + ys.length * a.length ≤ most then some (.str (Txt.join a ys)) else none
def joinV : Str → Val → Option Val
  | a, .lst vs => (strsL vs).bind (joinS a)
  | a, .tup vs => (strsL vs).bind (joinS a)
  | _, _ => none
def asS : Val → Option Str
  | .str x => some x
  | _ => none
def asDc : Val → Option Val
  | .dct ks vs => some (.dct ks vs)
  | _ => none
/-- what an f-string writes of a value -/
def strW : Val → Option Str
  | .str x => some x
  | .int i => if decide (i.natAbs < 2 ^ 1900) then some (toString i) else none
  | _ => none
def splitV : Str → Val → Option (List Val)
  | a, .str b => if b.length ≠ 0 ∧ a.length ≤ most then some ((Txt.split a b).map .str) else none
  | _, _ => none
/-- the dict of these pairs -/
def putAllL : List Val → List Val × List Val → List Val × List Val
  | .tup [y, z] :: r, d => putAllL r (dput d.1 d.2 y z)
  | _, d => d
def putAll (ps : List Val) : Val := .dct (putAllL ps ([], [])).1 (putAllL ps ([], [])).2
def dgetV : Val → Val → Val → Option Val
  | .dct ks vs, k, e => if flatK k then some ((dget ks vs k).getD e) else none
  | _, _, _ => none

def ownL (env : Env) (i : Nat) : Option (List Val) := match env[i]? with
  | some (some (.own vs)) => some vs
  | _ => none
def ownDL (env : Env) (i : Nat) : Option (List Val × List Val) := match env[i]? with
  | some (some (.ownD ks vs)) => some (ks, vs)
  | _ => none
/-- the instance in its making -/
def ownIL (env : Env) (i : Nat) : Option (Nat × List Str × List Val) := match env[i]? with
  | some (some (.ownI c ns vs)) => some (c, ns, vs)
  | _ => none
/-- a dict with other text at a key -/
def withV : Val → Val → Val → Option Val
  | .dct ks vs, y, z => (strsL ks).bind fun ns => if decide ns.Nodup && (flatK y && decide (ks.length ≤ most)) then some (.dct (dput ks vs y z).1 (dput ks vs y z).2) else none
  | _, _, _ => none
/-- a field of an instance -/
def fldL : List Str → List Val → Str → Option Val
  | n :: ns, v :: vs, x => if n = x then some v else fldL ns vs x
  | _, _, _ => none
def fldV : Val → Str → Option Val
  | .inst _ ns vs, x => fldL ns vs x
  | _, _ => none
def varV (env : Env) (i : Nat) : Option Val := match env[i]? with
  | some (some (.v x)) => some x
  | _ => none
/-- a turn of a comprehension -/
def keepIf (b : Bool) (m : Out Val) (h : Hs) : Out (Option Val) := if b then m.bind fun y h => .ok (some y) h else .ok none h
/-! ### expressions -/
section
variable (cf : Nat → List Val → Hs → Out Val)
mutual
def evE (e : E) (env : Env) (h : Hs) : Out Val := match e with
  | .lit l => .ok l.val h
  | .glb _ l => .ok l.val h
  | .var i => ofOpt (varV env i) h
  | .bin o a b => (evE a env h).bind fun x h => (evE b env h).bind fun y h => ofOpt (binop o x y) h
  | .neg a => (evE a env h).bind fun x h => ofOpt ((asI x).map fun i => .int (-i)) h
  | .not_ a => (evE a env h).bind fun x h => (ofOpt (asB x) h).bind fun b h => .ok (.bl (!b)) h
  | .and_ a b => (evE a env h).bind fun x h => (ofOpt (asB x) h).bind fun c h =>
      if c then (evE b env h).bind fun y h => (ofOpt (asB y) h).bind fun d h => .ok (.bl d) h else .ok (.bl false) h
  | .or_ a b => (evE a env h).bind fun x h => (ofOpt (asB x) h).bind fun c h =>
      if c then .ok (.bl true) h else (evE b env h).bind fun y h => (ofOpt (asB y) h).bind fun d h => .ok (.bl d) h
  | .ite c a b => (evE c env h).bind fun x h => (ofOpt (asB x) h).bind fun c h => if c then evE a env h else evE b env h
  | .cmp o a b => (evE a env h).bind fun x h => (evE b env h).bind fun y h => ofOpt ((cmpop o x y).map .bl) h
  | .chn o p a b c => (evE a env h).bind fun x h => (evE b env h).bind fun y h => (ofOpt (cmpop o x y) h).bind fun t h =>
      if t then (evE c env h).bind fun z h => ofOpt ((cmpop p y z).map .bl) h else .ok (.bl false) h
  | .tup es => (evEs es env h).bind fun vs h => .ok (.tup vs) h
  | .idx a i => (evE a env h).bind fun x h => (evE i env h).bind fun y h => ofOpt (getH h x y) h
  | .slc a lo hi => (evE a env h).bind fun x h => (evO lo env h).bind fun l h => (evO hi env h).bind fun u h => ofOpt (getS x l u) h
  | .rev a => (evE a env h).bind fun x h => ofOpt (getR x) h
  | .call f es ds => (evEs es env h).bind fun vs h => cf f (vs ++ ds.map Lit.val) h
  | .bi b es => (evEs es env h).bind fun vs h => ofOpt (bicall b vs) h
  | .isi a t => (evE a env h).bind fun x h => ofOpt ((isiOf x t).map .bl) h
  | .fr f => (evF f env h).bind fun vs h => .ok (.lst vs) h
  | .mk f => (evF f env h).bind fun vs h => .ok (.ref h.length) (h ++ [.lst vs])
  | .olen i => (ofOpt (ownL env i) h).bind fun vs h => .ok (.int vs.length) h
  | .oidx i e => (ofOpt (ownL env i) h).bind fun vs h => (evE e env h).bind fun y h => ofOpt ((asI y).bind fun k => atI vs k) h
  | .oemp i pos => (ofOpt (ownL env i) h).bind fun vs h => .ok (.bl (vs.isEmpty == pos)) h
  | .lenDC k tg it => (evIt it env h).bind fun xs h =>
      if decide (xs.length ≤ most) then
        (mapF (fun x h => (ofOpt (bindT tg x (wipeE env tg.slots)) h).bind fun env' h =>
          (evE k env' h).bind fun y h => if keyT y then .ok (some y) h else .bad) xs h).bind fun ks h => .ok (.int (firstKs [] ks).length) h
      else .bad
  | .lenSet f => (evF f env h).bind fun ks h => if ks.all keyT then .ok (.int (firstKs [] ks).length) h else .bad
  | .fld a x => (evE a env h).bind fun v h => ofOpt (fldV v x) h
  | .prop n a => (evE a env h).bind fun v h => nx (cf n [v] h)
  | .meth n a es ds => (evE a env h).bind fun v h => (nx (evEs es env h)).bind fun vs h => cf n (v :: (vs ++ ds.map Lit.val)) h
  | .new n es ds => (evEs es env h).bind fun vs h => cf n (vs ++ ds.map Lit.val) h
  | .join a b => (evE a env h).bind fun x h => (ofOpt (asS x) h).bind fun s h => (evE b env h).bind fun y h => ofOpt (joinV s y) h
  | .fstr es => evJ es Str.empty env h
  | .star a => evE a env h
  | .dcomp k v tg it => (evIt it env h).bind fun xs h =>
      if decide (xs.length ≤ most) then
        (mapF (fun x h => (ofOpt (bindT tg x (wipeE env tg.slots)) h).bind fun env' h =>
          (evE k env' h).bind fun y h => (evE v env' h).bind fun z h => if flatK y then .ok (some (.tup [y, z])) h else .bad) xs h).bind fun ps h => .ok (putAll ps) h
      else .bad
  | .dget d k e => (evE d env h).bind fun x h => (ofOpt (asDc x) h).bind fun x h => (evE k env h).bind fun y h => (evE e env h).bind fun z h => ofOpt (dgetV x y z) h
  | .eqI n neg a b => (evE a env h).bind fun x h => (evE b env h).bind fun y h => (ofOpt (sameC x y) h).bind fun _ h => (nx (cf n [x, y] h)).bind fun r h => (ofOpt (asB r) h).bind fun t h => .ok (.bl (t != neg)) h
  | .lenI n a => (evE a env h).bind fun x h => (nx (cf n [x] h)).bind fun r h => (ofOpt (asI r) h).bind fun i h => if decide (0 ≤ i) && decide (i ≤ most) then .ok (.int i) h else .bad
  | .dsp ns es => (evEs es env h).bind fun vs h => .ok (.dct (ns.map .str) vs) h
  | .oget i k e => (ofOpt (ownDL env i) h).bind fun d h => (evE k env h).bind fun y h => (evE e env h).bind fun z h => if keyT y then .ok ((dget d.1 d.2 y).getD z) h else .bad
  | .otup i => (ofOpt (ownDL env i) h).bind fun d h => if decide (d.1.length ≤ most) then .ok (.tup (zipV d.1 d.2)) h else .bad
def evEs (es : List E) (env : Env) (h : Hs) : Out (List Val) := match es with
  | [] => .ok [] h
  | e :: es => (evE e env h).bind fun x h => (ofOpt (spl (isStarE e) x) h).bind fun xs h => (evEs es env h).bind fun r h => .ok (xs ++ r) h
def evJ (es : List E) (acc : Str) (env : Env) (h : Hs) : Out Val := match es with
  | [] => .ok (.str acc) h
  | e :: es => (evE e env h).bind fun x h => (ofOpt (strW x) h).bind fun y h => if acc.length + y.length ≤ most then evJ es (acc ++ y) env h else .bad
def evO (o : Option E) (env : Env) (h : Hs) : Out (Option Int) := match o with
  | none => .ok none h
  | some e => (evE e env h).bind fun x h => (ofOpt (asI x) h).bind fun i h => .ok (some i) h
def evF (f : FE) (env : Env) (h : Hs) : Out (List Val) := match f with
  | .lst es => evEs es env h
  | .of e => (evE e env h).bind fun x h => ofOpt (itemsOf x) h
  | .ofIt it => (evIt it env h).bind fun xs h => if decide (xs.length ≤ most) then .ok xs h else .bad
  | .items i => (ofOpt (ownDL env i) h).bind fun d h => .ok (zipV d.1 d.2) h
  | .lstS es => (evEs es env h).bind fun vs h => if decide (vs.length ≤ most) then .ok vs h else .bad
  | .split a b => (evE a env h).bind fun x h => (ofOpt (asS x) h).bind fun s h => (evE b env h).bind fun y h => ofOpt (splitV s y) h
  | .rep f e => (evF f env h).bind fun vs h => (evE e env h).bind fun y h => (ofOpt (asI y) h).bind fun k h =>
      if decide (0 ≤ k) && (decide (k < 2 ^ 62) && decide (vs.length * k.toNat ≤ most)) then .ok (List.replicate k.toNat vs).flatten h else .bad
  | .cat a b => (evE a env h).bind fun x h => (evE b env h).bind fun y h => match x, y with
    | .lst xs, .lst ys => if xs.length + ys.length ≤ most then .ok (xs ++ ys) h else .bad
    | _, _ => .bad
  | .sset e => (evE e env h).bind fun x h => ofOpt (setL x) h
  | .comp e tg it cs => (evIt it env h).bind fun xs h =>
      if decide (xs.length ≤ most) then
        mapF (fun x h => (ofOpt (bindT tg x (wipeE env tg.slots)) h).bind fun env' h => (evC cs env' h).bind fun b h => keepIf b (evE e env' h) h) xs h
      else .bad
  | .comp2 e tg it tg2 it2 cs => (evIt it env h).bind fun xs h =>
      if decide (xs.length ≤ most) then
        mapL (fun x h => (ofOpt (bindT tg x (wipeE env (tg.slots ++ tg2.slots))) h).bind fun env' h => (evIt it2 env' h).bind fun ys h =>
            if decide (ys.length ≤ most) then
              mapF (fun y h => (ofOpt (bindT tg2 y env') h).bind fun env2 h => (evC cs env2 h).bind fun b h => keepIf b (evE e env2 h) h) ys h
            else .bad) xs h
      else .bad
def evC (cs : List E) (env : Env) (h : Hs) : Out Bool := match cs with
  | [] => .ok true h
  | c :: cs => (evE c env h).bind fun x h => (ofOpt (asB x) h).bind fun b h => if b then evC cs env h else .ok false h
def evIt (it : It) (env : Env) (h : Hs) : Out (List Val) := match it with
  | .seq e => (evE e env h).bind fun x h => ofOpt (walksOf x) h
  | .rng1 b => (evE b env h).bind fun x h => (ofOpt (asI x) h).bind fun j h => if rgOk j then .ok (rngV 0 j.toNat) h else .bad
  | .rng2 a b => (evE a env h).bind fun x h => (evE b env h).bind fun y h => (ofOpt (asI x) h).bind fun i h => (ofOpt (asI y) h).bind fun j h =>
      if rgOk i && rgOk j then .ok (rngV i (j - i).toNat) h else .bad
  | .enum e => (evE e env h).bind fun x h => (ofOpt (lstOf x) h).bind fun xs h => .ok (enumV 0 xs) h
  | .zip a b => (evE a env h).bind fun x h => (evE b env h).bind fun y h => (ofOpt (twoOf x y) h).bind fun p h => .ok (zipV p.1 p.2) h
end

/-! ### statements -/
inductive Fl where
  | nxt | ret (v : Val)
inductive OutS where
  | ok (f : Fl) (env : Env) (h : Hs)
  | exc (c : Nat) (v : Val) (h : Hs)
  | bad
@[simp] def OutS.bind : OutS → (Env → Hs → OutS) → OutS
  | .ok .nxt e h, f => f e h
  | .ok (.ret v) e h, _ => .ok (.ret v) e h
  | .exc c v h, _ => .exc c v h
  | .bad, _ => .bad
@[simp] def Out.toS {α : Type} : Out α → (α → Hs → OutS) → OutS
  | .ok a h, f => f a h
  | .exc c v h, _ => .exc c v h
  | .bad, _ => .bad
def setSlots (env : Env) : List Nat → List Val → Env
  | i :: is, v :: vs => setSlots (env.set i (some (.v v))) is vs
  | _, _ => env
def setSl (env : Env) : List Nat → List Slot → Env
  | i :: is, s :: ss => setSl (env.set i (some s)) is ss
  | _, _ => env
/-- o[k] = v of a list that changes -/
def setH (h : Hs) : Val → Val → Val → Option Hs
  | .ref n, .int k, v => match h[n]? with
    | some (.lst vs) => (ixN vs.length k).map fun j => h.set n (.lst (vs.set j v))
    | _ => none
  | _, _, _ => none
def augop : BOp → Val → Val → Option Val
  | .add, .int a, .int b => some (.int (a + b))
  | .sub, .int a, .int b => some (.int (a - b))
  | _, _, _ => none
/-- how many turns a while may take -/
def laps : Nat := 10 ^ 400
def loopF (g : Val → Env → Hs → OutS) : List Val → Env → Hs → OutS
  | [], env, h => .ok .nxt env h
  | v :: vs, env, h => (g v env h).bind fun env h => loopF g vs env h
def loopW (c : Env → Hs → Out Bool) (g : Env → Hs → OutS) : Nat → Env → Hs → OutS
  | 0, _, _ => .bad
  | n + 1, env, h => (c env h).toS fun b h => if b then (g env h).bind fun env h => loopW c g n env h else .ok .nxt env h
def setAt (x : Slot) (env : Env) (i : Nat) : Env := env.set i (some x)
def evP (p : PItem) (env : Env) (h : Hs) : Out Slot := match p with
  | .v e => (evE cf e env h).bind fun x h => .ok (.v x) h
  | .o f => (evF cf f env h).bind fun vs h => .ok (.own vs) h
def evPs (ps : List PItem) (env : Env) (h : Hs) : Out (List Slot) := match ps with
  | [] => .ok [] h
  | p :: ps => (evP cf p env h).bind fun s h => (evPs ps env h).bind fun r h => .ok (s :: r) h
mutual
def evS (s : S) (env : Env) (h : Hs) : OutS := match s with
  | .set i e => (evE cf e env h).toS fun x h => .ok .nxt (setAt (.v x) env i) h
  | .tset tg e => (evE cf e env h).toS fun x h => (ofOpt (bindT tg x env) h).toS fun env' h => .ok .nxt env' h
  | .setD i k v tg it => (evE cf (.dcomp k v tg it) env h).toS fun x h => .ok .nxt (setAt (.v x) env i) h
  | .parO is ps => (evPs cf ps env h).toS fun ss h => .ok .nxt (setSl env is ss) h
  | .par is es => (evEs cf es env h).toS fun vs h => .ok .nxt (setSlots env is vs) h
  | .unK is _ ns => .ok .nxt (setSlots env is (ns.map .int)) h
  | .own i f => (evF cf f env h).toS fun vs h => .ok .nxt (setAt (.own vs) env i) h
  | .ownD i => .ok .nxt (setAt (.ownD [] []) env i) h
  | .frz i => (ofOpt (ownL env i) h).toS fun vs h => .ok .nxt (setAt (.v (.lst vs)) env i) h
  | .app i e => (ofOpt (ownL env i) h).toS fun vs h => (evE cf e env h).toS fun x h => if decide (vs.length ≤ most) then .ok .nxt (setAt (.own (vs ++ [x])) env i) h else .bad
  | .appPop i j e => (ofOpt (ownL env i) h).toS fun vs h => (ofOpt (ownL env j) h).toS fun ws h => (evE cf e env h).toS fun x h => (ofOpt (asI x) h).toS fun k h =>
      if decide (0 ≤ k) && (decide (k < 2 ^ 62) && (decide (vs.length ≤ most) && decide (i ≠ j))) then
        (ofOpt ws[k.toNat]? h).toS fun y h => .ok .nxt (setAt (.own (vs ++ [y])) (setAt (.own (ws.eraseIdx k.toNat)) env j) i) h
      else .bad
  | .setI a i e => (evE cf e env h).toS fun v h => (evE cf a env h).toS fun o h => (evE cf i env h).toS fun k h => (ofOpt (setH h o k v) h).toS fun h' _ => .ok .nxt env h'
  | .oset x i e => (ofOpt (ownL env x) h).toS fun vs h => (evE cf e env h).toS fun v h => (evE cf i env h).toS fun k h => (ofOpt ((asI k).bind fun k => ixN vs.length k) h).toS fun j h =>
      .ok .nxt (setAt (.own (vs.set j v)) env x) h
  | .dset x k e => (ofOpt (ownDL env x) h).toS fun d h => (evE cf e env h).toS fun v h => (evE cf k env h).toS fun k h =>
      if keyT k && decide (d.1.length ≤ most) then .ok .nxt (setAt (.ownD (dput d.1 d.2 k v).1 (dput d.1 d.2 k v).2) env x) h else .bad
  | .aug i o e => (ofOpt (varV env i) h).toS fun x h => (evE cf e env h).toS fun y h => (ofOpt (augop o x y) h).toS fun z h => .ok .nxt (setAt (.v z) env i) h
  | .ret e => (evE cf e env h).toS fun x h => .ok (.ret x) env h
  | .retN => .ok (.ret .non) env h
  | .wthR i d k v => (ofOpt (varV env d) h).toS fun x h => (ofOpt (varV env v) h).toS fun z h => (ofOpt (varV env k) h).toS fun y h => (ofOpt (withV x y z) h).toS fun w h => if decide (i < env.length) then .ok (.ret w) env h else .bad
  | .ext i f => (ofOpt (ownL env i) h).toS fun vs h => (evF cf f env h).toS fun ws h => if decide (vs.length + ws.length ≤ most) then .ok .nxt (setAt (.own (vs ++ ws)) env i) h else .bad
  | .if_ c a b => (evE cf c env h).toS fun x h => (ofOpt (asB x) h).toS fun t h => if t then evSs a env h else evSs b env h
  | .for_ tg it b => (evIt cf it env h).toS fun xs h => loopF (fun x env h => (ofOpt (bindT tg x env) h).toS fun env' h => evSs b env' h) xs env h
  | .while_ c b => loopW (fun env h => (evE cf c env h).bind fun x h => ofOpt (asB x) h) (fun env h => evSs b env h) laps env h
  | .raise c e => (evE cf e env h).toS fun x h => .exc c x h
  | .ex e => (evE cf e env h).toS fun _ h => .ok .nxt env h
  | .pass => .ok .nxt env h
  | .nev => .bad
  | .fset i c x e => (evE cf e env h).toS fun v h => (ofOpt (ownIL env i) h).toS fun t h =>
      if decide (t.1 = c) && (!t.2.1.contains x && decide (t.2.1.length < 900)) then .ok .nxt (setAt (.ownI c (t.2.1 ++ [x]) (t.2.2 ++ [v])) env i) h else .bad
def evSs (ss : List S) (env : Env) (h : Hs) : OutS := match ss with
  | [] => .ok .nxt env h
  | s :: ss => (evS s env h).bind fun env h => evSs ss env h
end
end
/-! ### defs -/
def startE (n : Nat) (args : List Val) : Env := args.map (fun v => some (Slot.v v)) ++ List.replicate (n - args.length) none
/-- what a body's end is for its caller -/
def retOf : OutS → Out Val
  | .ok (.ret v) _ h => .ok v h
  | .ok .nxt _ h => .ok .non h
  | .exc c v h => .exc c v h
  | .bad => .bad
/-- a def is run -/
def runF (cf : Nat → List Val → Hs → Out Val) (d : FDef) (args : List Val) (h : Hs) : Out Val := if args.length = d.ps then retOf (evSs cf d.body (startE d.n args) h) else .bad
/-- an instance is made: the def __init__ is run, its first name the new instance -/
def doneI (c : Nat) : OutS → Out Val
  | .ok .nxt env h => match ownIL env 0 with
    | some t => if t.1 = c then .ok (.inst c t.2.1 t.2.2) h else .bad
    | none => .bad
  | .ok (.ret _) _ _ => .bad
  | .exc c v h => .exc c v h
  | .bad => .bad
def startI (c n : Nat) (args : List Val) : Env := some (.ownI c [] []) :: startE (n - 1) args
def runI (cf : Nat → List Val → Hs → Out Val) (c : Nat) (d : FDef) (args : List Val) (h : Hs) : Out Val := if args.length + 1 = d.ps then doneI c (evSs cf d.body (startI c d.n args) h) else .bad
/-- the class of a call's first argument -/
def clsOf : List Val → Option Nat
  | .inst c _ _ :: _ => some c
  | _ => none
section
variable (U : Nat → Option Def)
def callD : Nat → Nat → List Val → Hs → Out Val
  | 0, _, _, _ => .bad
  | k + 1, f, args, h => match U f with
    | some (.fn d) => runF (callD k) d args h
    | some (.disp l) => match (clsOf args).bind fun c => l.lookup c with
      | some g => callD k g args h
      | none => .bad
    | some (.mk c d) => match k with
      | 0 => .bad
      | j + 1 => runI (callD j) c d args h
    | none => .bad
variable {U}
theorem callD_fn {k f : Nat} {d : FDef} {args : List Val} {h : Hs} (hU : U f = some (.fn d)) : callD U (k + 1) f args h = runF (callD U k) d args h := by
  cases k <;> (unfold callD; rw [hU])
theorem callD_disp {k f g c : Nat} {l : List (Nat × Nat)} {args : List Val} {h : Hs} (hU : U f = some (.disp l)) (hc : clsOf args = some c) (hl : l.lookup c = some g) : callD U (k + 1) f args h = callD U k g args h := by
  cases k <;> (conv => lhs; unfold callD) <;> rw [hU] <;> simp [hc, hl]
theorem callD_mk {k f c : Nat} {d : FDef} {args : List Val} {h : Hs} (hU : U f = some (.mk c d)) : callD U (k + 2) f args h = runI (callD U k) c d args h := by
  conv => lhs; unfold callD
  rw [hU]
theorem callD_disp_no {k f : Nat} {l : List (Nat × Nat)} {args : List Val} {h : Hs} (hU : U f = some (.disp l)) (hn : ∀ c g, clsOf args = some c → l.lookup c = some g → False) : callD U (k + 1) f args h = .bad := by
  have e : ((clsOf args).bind fun c => l.lookup c) = none := by
    cases hc : clsOf args with
    | none => rfl
    | some c =>
      cases hl : l.lookup c with
      | none => exact hl
      | some g => exact (hn c g hc hl).elim
  cases k <;> (conv => lhs; unfold callD) <;> rw [hU] <;> simp [e]
theorem callD_mk1 {f c : Nat} {d : FDef} {args : List Val} {h : Hs} (hU : U f = some (.mk c d)) : callD U 1 f args h = .bad := by
  conv => lhs; unfold callD
  rw [hU]
end
end Pyi
set_option Elab.async false
set_option linter.all false
set_option maxRecDepth 100000
set_option maxHeartbeats 1000000
/-! How a plain value stands in the abstract heap. -/
namespace Pyi
open PySem PySem.Spec PyProof.Rows L2

/-- what is fixed through a law: the written part, the classes' addresses -/
structure Wd where
  P : Program
  w : World
  K : PySem.W.Frag
  mg : Str → Option Value
  base : Heap
  ca : Nat → Addr

/-- a key as a value -/
def keyV : L2.Key → Val
  | .inl i => .int i
  | .inr s => .str s
/-- what is known of an own class -/
structure OwnC (K : PySem.W.Frag) (C : Addr) : Prop where
  cls : Cls K C
  ha : PySem.W.findIn K (.ref C) "__class__" = some (some (.builtin "object.__class__"))
  hn : PySem.W.specialIn K (.builtin "object.__class__") "__get__" = some (some (.builtin "getset_descriptor.__get__"))
  htk : PySem.W.takesIn K (.builtin "object.__class__") = some true
  hm : PySem.W.mroIn K C (.type "object") = some true
  kit : ∀ T ∈ (["NoneType", "bool", "int", "str", "tuple", "list", "dict"] : List String), PySem.W.kitOne K (.type T) (.ref C) = some false
/-- what is known of a class and of its fields' names -/
def Flds (W : Wd) (c : Nat) (ns : List Str) : Prop := OwnC W.K (W.ca c) ∧ ∀ x ∈ ns, NoAttr W.K (W.ca c) x
section
variable (W : Wd) (F : Addr → Prop) (μ : List Addr) (H : Hp)
mutual
def RV : Val → V → Prop
  | .non, x => x = .non
  | .bl b, x => x = .bl b
  | .int i, x => x = .int i
  | .str s, x => x = .str s
  | .tup vs, x => ∃ a xs, x = .ref a ∧ F a ∧ H a = some (.tup xs) ∧ RVs vs xs
  | .lst vs, x => ∃ a xs, x = .ref a ∧ F a ∧ H a = some (.lst xs) ∧ RVs vs xs
  | .scr ns, x => ∃ a, x = .ref a ∧ ((F a ∧ Rd H a (.lst (ns.map V.int))) ∨ ∀ H' : Hp, SqL W.K H' a (ns.map V.int))
  | .dct ks vs, x => ∃ a kvs, x = .ref a ∧ F a ∧ H a = some (.dK kvs) ∧ ks = kvs.map (fun p => keyV p.1) ∧ RVs vs (kvs.map (·.2))
  | .inst c ns vs, x => ∃ a dx fs, x = .ref a ∧ F a ∧ F dx ∧ H a = some (.ins (W.ca c) dx fs) ∧ H dx = some (.own a) ∧ fs.map (·.1) = ns ∧ RVs vs (fs.map (·.2)) ∧ Flds W c ns
  | .exn c v, x => False
  | .ref n, x => ∃ a, μ[n]? = some a ∧ x = .ref a
def RVs : List Val → List V → Prop
  | [], xs => xs = []
  | v :: vs, xs => ∃ x r, xs = x :: r ∧ RV v x ∧ RVs vs r
end
def RObj : MObj → Addr → Prop
  | .lst vs, a => ∃ xs, H a = some (.lst xs) ∧ RVs W F μ H vs xs
  | .ins c ns vs, a => ∃ dx fs, H a = some (.ins (W.ca c) dx fs) ∧ fs.map (·.1) = ns ∧ RVs W F μ H vs (fs.map (·.2))
def RSlot : Slot → V → Prop
  | .v v, x => RV W F μ H v x
  | .own vs, x => ∃ a xs, x = .ref a ∧ H a = some (.lst xs) ∧ RVs W F μ H vs xs ∧ ¬ F a ∧ a ∉ μ
  | .ownD ks vs, x => ∃ a kvs, x = .ref a ∧ H a = some (.dT kvs) ∧ ¬ F a ∧ a ∉ μ ∧
      ks = kvs.map (fun p => Val.tup (p.1.map keyV)) ∧ RVs W F μ H vs (kvs.map (·.2))
  | .ownI c ns vs, x => ∃ a dx fs, x = .ref a ∧ H a = some (.ins (W.ca c) dx fs) ∧ H dx = some (.own a) ∧ fs.map (·.1) = ns ∧ RVs W F μ H vs (fs.map (·.2)) ∧ ¬ F a ∧ a ∉ μ ∧ dx ∉ μ ∧ Flds W c ns
structure RSt (h : Hs) : Prop where
  len : μ.length = h.length
  nd : μ.Nodup
  ob : ∀ (n : Nat) o a, h[n]? = some o → μ[n]? = some a → RObj W F μ H o a
  nf : ∀ a, a ∈ μ → ¬ F a
  lm : ∀ a, a ∈ μ → H a ≠ none
  lf : ∀ a, F a → H a ≠ none
end
def isOwn : Slot → Bool
  | .v _ => false
  | _ => true
/-- what the frame alone holds -/
def OwnAt (env : Env) (σ : L2.St) (i : Nat) (a : Addr) : Prop := ∃ s, env[i]? = some (some s) ∧ isOwn s = true ∧ σ[i]? = some (some (.ref a))
def Own (env : Env) (σ : L2.St) (a : Addr) : Prop := ∃ i, OwnAt env σ i a
structure REnv (W : Wd) (F : Addr → Prop) (μ : List Addr) (H : Hp) (env : Env) (σ : L2.St) : Prop where
  len : env.length = σ.length
  sl : ∀ (i : Nat) s, env[i]? = some (some s) → ∃ x, σ[i]? = some (some x) ∧ RSlot W F μ H s x
  sep : ∀ i j a, OwnAt env σ i a → OwnAt env σ j a → i = j

/-- what nobody writes: tuples, an instance's dict -/
def Imm : HO → Prop
  | .tup _ => True
  | .own _ => True
  | _ => False
/-- on from one state to a later one: expressions -/
structure Stp (F : Addr → Prop) (μ : List Addr) (H : Hp) (F' : Addr → Prop) (μ' : List Addr) (H' : Hp) : Prop where
  f : ∀ a, F a → F' a
  m : ∃ r, μ' = μ ++ r
  fz : ∀ a, F a → H' a = H a
  keep : ∀ b o, H b = some o → b ∉ μ → H' b = some o
  fn : ∀ a, F' a → F a ∨ H a = none ∨ ((∃ o, H a = some o ∧ Imm o) ∧ a ∉ μ')
  mn : ∀ a, a ∈ μ' → a ∈ μ ∨ H a = none
  lv : ∀ a, H a ≠ none → H' a ≠ none

section
variable {W : Wd} {F F' F2 : Addr → Prop} {μ μ' μ2 : List Addr} {H H' H2 : Hp} {env : Env} {σ : L2.St}
theorem Stp.refl : Stp F μ H F μ H := ⟨fun _ h => h, ⟨[], (List.append_nil μ).symm⟩, fun _ _ => rfl, fun _ _ h _ => h, fun _ h => .inl h, fun _ h => .inl h, fun _ h => h⟩
theorem Stp.trans (a : Stp F μ H F' μ' H') (b : Stp F' μ' H' F2 μ2 H2) : Stp F μ H F2 μ2 H2 where
  f := fun x h => b.f x (a.f x h)
  m := by
    obtain ⟨r, e⟩ := a.m
    obtain ⟨q, e'⟩ := b.m
    exact ⟨r ++ q, by rw [e', e, List.append_assoc]⟩
  fz := fun x h => (b.fz x (a.f x h)).trans (a.fz x h)
  keep := fun x o h n => b.keep x o (a.keep x o h n) fun hm => by
    rcases a.mn x hm with h1 | h1
    · exact n h1
    · rw [h] at h1; cases h1
  fn := fun x h => by
    have back : H' x = none → H x = none := fun h1 => by
      cases q : H x with
      | none => rfl
      | some o => exact absurd h1 (a.lv x (by rw [q]; exact fun z => by cases z))
    have sub : x ∉ μ2 → x ∉ μ' := fun h1 h2 => h1 (by
      obtain ⟨r, e⟩ := b.m
      rw [e]
      exact List.mem_append_left _ h2)
    rcases b.fn x h with h1 | h1 | ⟨⟨o1, h1, im⟩, h2⟩
    · rcases a.fn x h1 with h3 | h3 | ⟨h3, h4⟩
      · exact .inl h3
      · exact .inr (.inl h3)
      · refine .inr (.inr ⟨h3, fun z => ?_⟩)
        rcases b.mn x z with y | y
        · exact h4 y
        · obtain ⟨o3, h3, _⟩ := h3
          exact a.lv x (by rw [h3]; exact fun z => by cases z) y
    · exact .inr (.inl (back h1))
    · cases q : H x with
      | none => exact .inr (.inl rfl)
      | some o =>
        have nm : x ∉ μ := fun z => sub h2 (by
          obtain ⟨r, e⟩ := a.m
          rw [e]
          exact List.mem_append_left _ z)
        have k := a.keep x o q nm
        rw [h1] at k
        cases k
        exact .inr (.inr ⟨⟨_, rfl, im⟩, h2⟩)
  mn := fun x h => by
    rcases b.mn x h with h1 | h1
    · exact a.mn x h1
    · refine .inr ?_
      cases q : H x with
      | none => rfl
      | some o => exact absurd h1 (a.lv x (by rw [q]; exact fun z => by cases z))
  lv := fun x h => b.lv x (a.lv x h)

theorem Stp.mu (a : Stp F μ H F' μ' H') {n : Nat} {x : Addr} (h : μ[n]? = some x) : μ'[n]? = some x := by
  obtain ⟨r, e⟩ := a.m
  rw [e, List.getElem?_append_left (List.getElem?_eq_some_iff.mp h).1]
  exact h
theorem Stp.mem (a : Stp F μ H F' μ' H') {x : Addr} (h : x ∈ μ) : x ∈ μ' := by
  obtain ⟨r, e⟩ := a.m
  rw [e]
  exact List.mem_append_left _ h

structure Mon (F : Addr → Prop) (μ : List Addr) (H : Hp) (F' : Addr → Prop) (μ' : List Addr) (H' : Hp) : Prop where
  f : ∀ a, F a → F' a
  mu : ∀ (n : Nat) (x : Addr), μ[n]? = some x → μ'[n]? = some x
  fz : ∀ a, F a → H' a = H a
theorem Stp.mon (a : Stp F μ H F' μ' H') : Mon F μ H F' μ' H' := ⟨a.f, fun _ _ => a.mu, a.fz⟩
mutual
theorem RV.mon (s : Mon F μ H F' μ' H') : ∀ (v : Val) (x : V), RV W F μ H v x → RV W F' μ' H' v x
  | .non, _, h => h
  | .bl _, _, h => h
  | .int _, _, h => h
  | .str _, _, h => h
  | .tup vs, x, h => by
    obtain ⟨a, xs, e, f, g, r⟩ := h
    exact ⟨a, xs, e, s.f a f, (s.fz a f).trans g, RVs.mon s vs xs r⟩
  | .lst vs, x, h => by
    obtain ⟨a, xs, e, f, g, r⟩ := h
    exact ⟨a, xs, e, s.f a f, (s.fz a f).trans g, RVs.mon s vs xs r⟩
  | .scr ns, x, h => by
    obtain ⟨a, e, q⟩ := h
    refine ⟨a, e, ?_⟩
    rcases q with ⟨f, g⟩ | q
    · refine .inl ⟨s.f a f, ?_⟩
      unfold Rd at g ⊢
      rw [s.fz a f]
      exact g
    · exact .inr q
  | .dct ks vs, x, h => by
    obtain ⟨a, kvs, e, f, g, k, r⟩ := h
    exact ⟨a, kvs, e, s.f a f, (s.fz a f).trans g, k, RVs.mon s vs _ r⟩
  | .inst c ns vs, x, h => by
    obtain ⟨a, dx, fs, e, f, fd, g, gd, n, r, fl⟩ := h
    exact ⟨a, dx, fs, e, s.f a f, s.f dx fd, (s.fz a f).trans g, (s.fz dx fd).trans gd, n, RVs.mon s vs _ r, fl⟩
  | .exn _ _, _, h => h
  | .ref n, x, h => by
    obtain ⟨a, e, q⟩ := h
    exact ⟨a, s.mu _ _ e, q⟩
theorem RVs.mon (s : Mon F μ H F' μ' H') : ∀ (vs : List Val) (xs : List V), RVs W F μ H vs xs → RVs W F' μ' H' vs xs
  | [], _, h => h
  | v :: vs, xs, h => by
    obtain ⟨x, r, e, h1, h2⟩ := h
    exact ⟨x, r, e, RV.mon s v x h1, RVs.mon s vs r h2⟩
end

theorem RV.mono (s : Stp F μ H F' μ' H') (v : Val) (x : V) (r : RV W F μ H v x) : RV W F' μ' H' v x := RV.mon s.mon v x r
theorem RVs.mono (s : Stp F μ H F' μ' H') (v : List Val) (x : List V) (r : RVs W F μ H v x) : RVs W F' μ' H' v x := RVs.mon s.mon v x r
theorem RVs.length : ∀ {vs : List Val} {xs : List V}, RVs W F μ H vs xs → vs.length = xs.length
  | [], _, h => by
    have e : _ = [] := h
    rw [e]
    rfl
  | _ :: vs, _, h => by
    obtain ⟨x, r, rfl, _, h2⟩ := h
    rw [List.length_cons, List.length_cons, RVs.length h2]
theorem RVs.get : ∀ {vs : List Val} {xs : List V} {n : Nat} {v : Val}, RVs W F μ H vs xs → vs[n]? = some v → ∃ x, xs[n]? = some x ∧ RV W F μ H v x
  | [], _, _, _, _, e => by simp at e
  | _ :: _, _, 0, _, h, e => by
    obtain ⟨x, r, rfl, h1, _⟩ := h
    have e' := Option.some.inj e
    rw [← e']
    exact ⟨x, rfl, h1⟩
  | _ :: vs, _, n + 1, _, h, e => by
    obtain ⟨x, r, rfl, _, h2⟩ := h
    exact RVs.get (n := n) h2 e
theorem RVs.append : ∀ {vs ws : List Val} {xs ys : List V}, RVs W F μ H vs xs → RVs W F μ H ws ys → RVs W F μ H (vs ++ ws) (xs ++ ys)
  | [], _, _, _, h, k => by
    have e : _ = [] := h
    rw [e]
    exact k
  | _ :: vs, _, _, _, h, k => by
    obtain ⟨x, r, rfl, h1, h2⟩ := h
    exact ⟨x, _, rfl, h1, RVs.append h2 k⟩
theorem RVs.take : ∀ {vs : List Val} {xs : List V} (n : Nat), RVs W F μ H vs xs → RVs W F μ H (vs.take n) (xs.take n)
  | _, _, 0, _ => rfl
  | [], _, _ + 1, h => by
    have e : _ = [] := h
    rw [e]
    rfl
  | _ :: vs, _, n + 1, h => by
    obtain ⟨x, r, rfl, h1, h2⟩ := h
    exact ⟨x, _, rfl, h1, RVs.take n h2⟩
theorem RVs.drop : ∀ {vs : List Val} {xs : List V} (n : Nat), RVs W F μ H vs xs → RVs W F μ H (vs.drop n) (xs.drop n)
  | _, _, 0, h => h
  | [], _, _ + 1, h => by
    have e : _ = [] := h
    rw [e]
    rfl
  | _ :: vs, _, n + 1, h => by
    obtain ⟨x, r, rfl, h1, h2⟩ := h
    exact RVs.drop n h2
theorem RVs.reverse : ∀ {vs : List Val} {xs : List V}, RVs W F μ H vs xs → RVs W F μ H vs.reverse xs.reverse
  | [], _, h => by
    have e : _ = [] := h
    rw [e]
    rfl
  | _ :: vs, _, h => by
    obtain ⟨x, r, rfl, h1, h2⟩ := h
    rw [List.reverse_cons, List.reverse_cons]
    exact RVs.append (RVs.reverse h2) ⟨x, [], rfl, h1, rfl⟩
theorem RVs.set : ∀ {vs : List Val} {xs : List V} {v : Val} {x : V} (n : Nat), RVs W F μ H vs xs → RV W F μ H v x → RVs W F μ H (vs.set n v) (xs.set n x)
  | [], _, _, _, _, h, _ => by
    have e : _ = [] := h
    rw [e]
    rfl
  | _ :: vs, _, _, _, 0, h, q => by
    obtain ⟨x, r, rfl, h1, h2⟩ := h
    exact ⟨_, r, rfl, q, h2⟩
  | _ :: vs, _, _, _, n + 1, h, q => by
    obtain ⟨x, r, rfl, h1, h2⟩ := h
    exact ⟨x, _, rfl, h1, RVs.set n h2 q⟩
theorem RVs.eraseIdx : ∀ {vs : List Val} {xs : List V} (n : Nat), RVs W F μ H vs xs → RVs W F μ H (vs.eraseIdx n) (xs.eraseIdx n)
  | [], _, _, h => by
    have e : _ = [] := h
    rw [e]
    rfl
  | _ :: vs, _, 0, h => by
    obtain ⟨x, r, rfl, h1, h2⟩ := h
    exact h2
  | _ :: vs, _, n + 1, h => by
    obtain ⟨x, r, rfl, h1, h2⟩ := h
    exact ⟨x, _, rfl, h1, RVs.eraseIdx n h2⟩
theorem RVs.ints : ∀ {ns : List Int}, RVs W F μ H (ns.map Val.int) (ns.map V.int)
  | [] => rfl
  | i :: ns => ⟨_, _, rfl, rfl, RVs.ints⟩
theorem RVs.ofInts : ∀ {vs : List Val} {ns : List Int} {xs : List V}, intsOf vs = some ns → RVs W F μ H vs xs → xs = ns.map V.int
  | [], ns, xs, e, h => by
    have e' : _ = [] := h
    cases e
    exact e'
  | v :: vs, ns, xs, e, h => by
    obtain ⟨x, r, rfl, h1, h2⟩ := h
    cases v with
    | int i =>
      obtain ⟨ms, e1, e2⟩ := Option.map_eq_some_iff.mp (show (intsOf vs).map (i :: ·) = some ns from e)
      have e3 : x = V.int i := h1
      rw [← e2, e3, RVs.ofInts e1 h2]
      rfl
    | _ => cases e
theorem RVs.ofBools : ∀ {vs : List Val} {ns : List Bool} {xs : List V}, boolsOf vs = some ns → RVs W F μ H vs xs → xs = ns.map V.bl
  | [], ns, xs, e, h => by
    have e' : _ = [] := h
    cases e
    exact e'
  | v :: vs, ns, xs, e, h => by
    obtain ⟨x, r, rfl, h1, h2⟩ := h
    cases v with
    | bl i =>
      obtain ⟨ms, e1, e2⟩ := Option.map_eq_some_iff.mp (show (boolsOf vs).map (i :: ·) = some ns from e)
      have e3 : x = V.bl i := h1
      rw [← e2, e3, RVs.ofBools e1 h2]
      rfl
    | _ => cases e

/-- a new object laid: F grows by it -/
theorem Stp.laid {p : Addr} {o : HO} (n : H p = none) (nm : p ∉ μ) (nf : ¬ F p) : Stp F μ H (fun a => F a ∨ a = p) μ (upd H p o) where
  f := fun _ h => .inl h
  m := ⟨[], (List.append_nil μ).symm⟩
  fz := fun a h => upd_ne fun e => nf (e ▸ h)
  keep := fun b u h _ => by rw [upd_ne (ne_of_none h n)]; exact h
  fn := fun a h => by
    rcases h with h | h
    · exact .inl h
    · rw [h]; exact .inr (.inl n)
  mn := fun _ h => .inl h
  lv := fun a h => by
    by_cases e : a = p
    · rw [e, upd_same]; exact fun z => by cases z
    · rw [upd_ne e]; exact h
/-- a new object laid, held by nobody yet -/
theorem Stp.fresh {p : Addr} {o : HO} (n : H p = none) (nf : ¬ F p) : Stp F μ H F μ (upd H p o) where
  f := fun _ h => h
  m := ⟨[], (List.append_nil μ).symm⟩
  fz := fun a h => upd_ne fun e => nf (e ▸ h)
  keep := fun b u h _ => by rw [upd_ne (ne_of_none h n)]; exact h
  fn := fun a h => .inl h
  mn := fun _ h => .inl h
  lv := fun a h => by
    by_cases e : a = p
    · rw [e, upd_same]; exact fun z => by cases z
    · rw [upd_ne e]; exact h
theorem RObj.mono (s : Stp F μ H F' μ' H') {o : MObj} {a : Addr} (e : H' a = H a) (r : RObj W F μ H o a) : RObj W F' μ' H' o a := by
  cases o with
  | lst vs =>
    obtain ⟨xs, g, q⟩ := r
    exact ⟨xs, e.trans g, RVs.mono s vs xs q⟩
  | ins c ns vs =>
    obtain ⟨dx, fs, g, n, q⟩ := r
    exact ⟨dx, fs, e.trans g, n, RVs.mono s vs _ q⟩
theorem RSt.notF {h : Hs} (r : RSt W F μ H h) {p : Addr} (n : H p = none) : ¬ F p := fun f => r.lf p f n
theorem RSt.notM {h : Hs} (r : RSt W F μ H h) {p : Addr} (n : H p = none) : p ∉ μ := fun f => r.lm p f n
/-- nothing of the changing objects changed, none came -/
theorem RSt.same {h : Hs} (r : RSt W F μ H h) (s : Stp F μ H F' μ H') (e : ∀ a, a ∈ μ → H' a = H a) (l : ∀ a, F' a → H' a ≠ none) : RSt W F' μ H' h where
  len := r.len
  nd := r.nd
  ob := fun n o a h1 h2 => RObj.mono s (e a (List.mem_of_getElem? h2)) (r.ob n o a h1 h2)
  nf := fun a h f => by
    rcases s.fn a f with f | f | f
    · exact r.nf a h f
    · exact r.lm a h f
    · exact f.2 h
  lm := fun a h => s.lv a (r.lm a h)
  lf := l
theorem RSt.laid {h : Hs} (r : RSt W F μ H h) {p : Addr} {o : HO} (n : H p = none) : RSt W (fun a => F a ∨ a = p) μ (upd H p o) h :=
  r.same (Stp.laid n (r.notM n) (r.notF n)) (fun a h => upd_ne (show a ≠ p from fun e => r.lm a h (by rw [e]; exact n))) fun a f => by
    rcases f with f | f
    · rw [upd_ne (show a ≠ p from fun e => r.notF n (e ▸ f))]; exact r.lf a f
    · rw [f, upd_same]; exact fun z => by cases z
theorem RSt.fresh {h : Hs} (r : RSt W F μ H h) {p : Addr} {o : HO} (n : H p = none) : RSt W F μ (upd H p o) h :=
  r.same (Stp.fresh n (r.notF n)) (fun a h => upd_ne (show a ≠ p from fun e => r.lm a h (by rw [e]; exact n))) fun a f => by
    rw [upd_ne (show a ≠ p from fun e => r.notF n (e ▸ f))]; exact r.lf a f
theorem RSlot.own_at {s : Slot} {x : V} (r : RSlot W F μ H s x) (o : isOwn s = true) : ∃ a, x = .ref a ∧ H a ≠ none ∧ ¬ F a ∧ a ∉ μ := by
  cases s with
  | v x => cases o
  | own vs =>
    obtain ⟨a, xs, e, g, _, f, m⟩ := r
    exact ⟨a, e, by rw [g]; exact (fun z => by cases z), f, m⟩
  | ownD ks vs =>
    obtain ⟨a, kvs, e, g, f, m, _⟩ := r
    exact ⟨a, e, by rw [g]; exact (fun z => by cases z), f, m⟩
  | ownI c ns vs =>
    obtain ⟨a, dx, fs, e, g, _, _, _, f, m, _⟩ := r
    exact ⟨a, e, by rw [g]; exact (fun z => by cases z), f, m⟩
theorem RSlot.mono (s : Stp F μ H F' μ' H') {o : Slot} {x : V} (r : RSlot W F μ H o x) : RSlot W F' μ' H' o x := by
  have nf : ∀ a u, H a = some u → ¬ Imm u → ¬ F a → ¬ F' a := fun a u l nt f f' => by
    rcases s.fn a f' with z | z | ⟨⟨o, z, im⟩, _⟩
    · exact f z
    · rw [l] at z
      cases z
    · rw [l] at z
      cases z
      exact nt im
  have nm : ∀ a, H a ≠ none → a ∉ μ → a ∉ μ' := fun a l f f' => by
    rcases s.mn a f' with z | z
    · exact f z
    · exact l z
  have ln : ∀ {a o}, H a = some o → H a ≠ none := fun e z => by rw [z] at e; cases e
  cases o with
  | v v => exact RV.mono s v x r
  | own vs =>
    obtain ⟨a, xs, e, g, q, f, m⟩ := r
    exact ⟨a, xs, e, s.keep a _ g m, RVs.mono s vs xs q, nf a _ g (fun z => z) f, nm a (ln g) m⟩
  | ownD ks vs =>
    obtain ⟨a, kvs, e, g, f, m, k, q⟩ := r
    exact ⟨a, kvs, e, s.keep a _ g m, nf a _ g (fun z => z) f, nm a (ln g) m, k, RVs.mono s vs _ q⟩
  | ownI c ns vs =>
    obtain ⟨a, dx, fs, e, g, gd, n, q, f, m, md, fl⟩ := r
    exact ⟨a, dx, fs, e, s.keep a _ g m, s.keep dx _ gd md, n, RVs.mono s vs _ q, nf a _ g (fun z => z) f, nm a (ln g) m, nm dx (ln gd) md, fl⟩
theorem REnv.mono (s : Stp F μ H F' μ' H') (r : REnv W F μ H env σ) : REnv W F' μ' H' env σ where
  len := r.len
  sl := fun i t e => by
    obtain ⟨x, e1, q⟩ := r.sl i t e
    exact ⟨x, e1, q.mono s⟩
  sep := r.sep
end

/-! ### readings by the interpreter -/
section
variable (W : Wd) (Z : WX)
abbrev Ev (α : Type) := Env → Hs → Out α
/-- what is wanted of an exception of the class c with the value v, raised in the state of h' -/
def Exq (F : Addr → Prop) (μ : List Addr) (H : Hp) (σ : L2.St) (c : Nat) (v : Val) (h' : Hs) : Prop :=
  ∀ F' μ' H' d x, RSt W F' μ' H' h' → Stp F μ H F' μ' H' → H d = none → ¬ F' d → d ∉ μ' → H' d = some (.xd [("value", x)]) → RV W F' μ' H' v x → Z (.ref (W.ca c)) (some d) σ H'
/-- what is wanted behind a run -/
def Aft {γ : Type} : Out γ → (γ → Hs → Prop) → (Nat → Val → Hs → Prop) → Prop
  | .ok a h, g, _ => g a h
  | .exc c v h, _, x => x c v h
  | .bad, _, _ => False
/-- the common form; R: how what comes stands (H: the heap ahead) -/
def RDg {α β : Type} (R : Hp → (Addr → Prop) → List Addr → Hp → α → β → Prop) (m : Ev α) (σ : L2.St) (H : Hp) (Q : β → Hp → Prop) : Prop := ∃ F μ env h, RSt W F μ H h ∧ REnv W F μ H env σ ∧
  Aft (m env h) (fun v h' => ∀ F' μ' H' x, RSt W F' μ' H' h' → Stp F μ H F' μ' H' → R H F' μ' H' v x → Q x H') (Exq W Z F μ H σ)
abbrev RD (m : Ev Val) : TE := RDg W Z (fun _ F μ H v x => RV W F μ H v x) m
abbrev RDb (m : Ev Val) : TT := RDg W Z (fun _ _ _ _ b c => b = c) (fun env h => (m env h).bind fun x h => ofOpt (asB x) h)
abbrev RDs (m : Ev (List Val)) : TA := RDg W Z (fun _ F μ H v x => RVs W F μ H v x) m
/-- a list just made: nobody holds it -/
def Fresh (W : Wd) (H0 : Hp) (F : Addr → Prop) (μ : List Addr) (H : Hp) (vs : List Val) (x : V) : Prop := ∃ p xs, x = .ref p ∧ H0 p = none ∧ ¬ F p ∧ p ∉ μ ∧ H p = some (.lst xs) ∧ RVs W F μ H vs xs
abbrev RDf (m : Ev (List Val)) : TE := RDg W Z (Fresh W) m
/-- an optional int -/
abbrev RDo (m : Ev (Option Int)) : TO := RDg W Z (fun _ _ _ _ v b => v = b) m
end
section
variable {W : Wd} {X : Cx} {Z : WX}
theorem Exq.trans {F F1 : Addr → Prop} {μ μ1 : List Addr} {H H1 : Hp} {σ : L2.St} {c : Nat} {v : Val} {h' : Hs} (q : Exq W Z F μ H σ c v h') (s : Stp F μ H F1 μ1 H1) : Exq W Z F1 μ1 H1 σ c v h' :=
  fun F' μ' H' d x r t n f m e rv => q F' μ' H' d x r (s.trans t) (by
    cases hd : H d with
    | none => rfl
    | some o => exact absurd n (s.lv d (by rw [hd]; exact fun z => by cases z))) f m e rv
theorem PE.imp {e : Expr} {t t' : TE} (h : PE X e t) (i : ∀ σ H Q, t' σ H Q → t σ H Q) : PE X e t' := ⟨fun pins s σ H Q I q => h.run pins s σ H Q I (i σ H Q q)⟩
theorem PT.imp {e : Expr} {t t' : TT} (h : PT X e t) (i : ∀ σ H Q, t' σ H Q → t σ H Q) : PT X e t' := ⟨fun pins s σ H Q I q => h.run pins s σ H Q I (i σ H Q q)⟩
theorem PW.imp {e : Expr} {t t' : TT} (h : PW X e t) (i : ∀ σ H Q, t' σ H Q → t σ H Q) : PW X e t' := ⟨fun wh pins s σ H Q I q => h.run wh pins s σ H Q I (i σ H Q q)⟩
theorem PA.imp {e : List Expr} {t t' : TA} (h : PA X e t) (i : ∀ σ H Q, t' σ H Q → t σ H Q) : PA X e t' := ⟨fun pos pins s σ H Q I q => h.run pos pins s σ H Q I (i σ H Q q)⟩
theorem PO.imp {e : Option Expr} {t t' : TO} (h : PO X e t) (i : ∀ σ H Q, t' σ H Q → t σ H Q) : PO X e t' := ⟨fun pins s σ H Q I q => h.run pins s σ H Q I (i σ H Q q)⟩
/-- one step of a bind: what the first part asks -/
theorem rd_step {α β γ : Type} {R : Hp → (Addr → Prop) → List Addr → Hp → α → β → Prop} {m : Ev α} {f : α → Hs → Out γ} {σ : L2.St} {H : Hp} {Q : β → Hp → Prop}
    {F : Addr → Prop} {μ : List Addr} {env : Env} {h : Hs} {Good : γ → Hs → Prop} (r : RSt W F μ H h) (e : REnv W F μ H env σ)
    (q : Aft ((m env h).bind f) Good (Exq W Z F μ H σ))
    (k : ∀ v h' F' μ' H' x, RSt W F' μ' H' h' → REnv W F' μ' H' env σ → Stp F μ H F' μ' H' → R H F' μ' H' v x → Aft (f v h') Good (Exq W Z F' μ' H' σ) → Q x H') : RDg W Z R m σ H Q := by
  refine ⟨F, μ, env, h, r, e, ?_⟩
  cases h1 : m env h with
  | ok v h' =>
    rw [h1] at q
    intro F' μ' H' x r1 s1 v1
    refine k v h' F' μ' H' x r1 (e.mono s1) s1 v1 ?_
    have q' : Aft (f v h') Good (Exq W Z F μ H σ) := q
    cases h2 : f v h' with
    | ok w h2' =>
      rw [h2] at q'
      exact q'
    | exc c w h2' =>
      rw [h2] at q'
      exact Exq.trans q' s1
    | bad =>
      rw [h2] at q'
      exact q'
  | exc c v h' =>
    rw [h1] at q
    exact q
  | bad =>
    rw [h1] at q
    exact q
theorem aft_opt {γ : Type} {o : Option γ} {h : Hs} {g : γ → Hs → Prop} {x : Nat → Val → Hs → Prop} (q : Aft (ofOpt o h) g x) : ∃ a, o = some a ∧ g a h := by
  cases o with
  | some a => exact ⟨a, rfl, q⟩
  | none => exact q.elim
/-- an operation of two values, by the interpreter's own -/
def rG (W : Wd) (g : Val → Val → Option Val) : R2 := fun x y H Q => ∃ F μ h v w u, RSt W F μ H h ∧ RV W F μ H v x ∧ RV W F μ H w y ∧ g v w = some u ∧
  ∀ F' H' z, RSt W F' μ H' h → Stp F μ H F' μ H' → RV W F' μ H' u z → Q z H'
/-- of one -/
def rG1 (W : Wd) (g : Val → Option Val) : V → Hp → VK → Prop := fun x H Q => ∃ F μ h v u, RSt W F μ H h ∧ RV W F μ H v x ∧ g v = some u ∧
  ∀ F' H' z, RSt W F' μ H' h → Stp F μ H F' μ H' → RV W F' μ H' u z → Q z H'
/-- of a list of them -/
def rGs (W : Wd) (g : List Val → Option Val) : List V → Hp → VK → Prop := fun xs H Q => ∃ F μ h vs u, RSt W F μ H h ∧ RVs W F μ H vs xs ∧ g vs = some u ∧
  ∀ F' H' z, RSt W F' μ H' h → Stp F μ H F' μ H' → RV W F' μ H' u z → Q z H'
theorem rd_two {ma mb : Ev Val} {g : Val → Val → Option Val} {σ : L2.St} {H : Hp} {Q : VK}
    (q : RD W Z (fun env h => (ma env h).bind fun x h => (mb env h).bind fun y h => ofOpt (g x y) h) σ H Q) : tOp (rG W g) (RD W Z ma) (RD W Z mb) σ H Q := by
  obtain ⟨F, μ, env, h, r, e, m⟩ := q
  show RD W Z ma σ H fun x H1 => RD W Z mb σ H1 fun y H2 => rG W g x y H2 Q
  refine rd_step r e m fun v h' F1 μ1 H1 x r1 e1 s1 v1 m1 => ?_
  refine rd_step r1 e1 m1 fun w h2 F2 μ2 H2 y r2 e2 s2 v2 m2 => ?_
  obtain ⟨u, h3, k⟩ := aft_opt m2
  exact ⟨F2, μ2, h2, v, w, u, r2, RV.mono s2 v x v1, v2, h3, fun F3 H3 z r3 s3 v3 => k F3 μ2 H3 z r3 ((s1.trans s2).trans s3) v3⟩
theorem rd_one {ma : Ev Val} {g : Val → Option Val} {σ : L2.St} {H : Hp} {Q : VK}
    (q : RD W Z (fun env h => (ma env h).bind fun x h => ofOpt (g x) h) σ H Q) : tUn (rG1 W g) (RD W Z ma) σ H Q := by
  obtain ⟨F, μ, env, h, r, e, m⟩ := q
  show RD W Z ma σ H fun x H1 => rG1 W g x H1 Q
  refine rd_step r e m fun v h' F1 μ1 H1 x r1 e1 s1 v1 m1 => ?_
  obtain ⟨u, h3, k⟩ := aft_opt m1
  exact ⟨F1, μ1, h', v, u, r1, v1, h3, fun F3 H3 z r3 s3 v3 => k F3 μ1 H3 z r3 (s1.trans s3) v3⟩
theorem rd_many {ma : Ev (List Val)} {g : List Val → Option Val} {σ : L2.St} {H : Hp} {Q : VK}
    (q : RD W Z (fun env h => (ma env h).bind fun x h => ofOpt (g x) h) σ H Q) : tCB (rGs W g) (RDs W Z ma) σ H Q := by
  obtain ⟨F, μ, env, h, r, e, m⟩ := q
  show RDs W Z ma σ H fun x H1 => rGs W g x H1 Q
  refine rd_step r e m fun v h' F1 μ1 H1 x r1 e1 s1 v1 m1 => ?_
  obtain ⟨u, h3, k⟩ := aft_opt m1
  exact ⟨F1, μ1, h', v, u, r1, v1, h3, fun F3 H3 z r3 s3 v3 => k F3 μ1 H3 z r3 (s1.trans s3) v3⟩
end
end Pyi
set_option Elab.async false
set_option linter.all false
set_option maxRecDepth 100000
set_option maxHeartbeats 1000000
/-! The interpreter's operators are the model's. -/
namespace Pyi
open PySem PySem.Spec PyProof.Rows L2

def opB : BOp → Operator
  | .add => .Add | .sub => .Sub | .mul => .Mult | .fdiv => .FloorDiv | .mod => .Mod | .pow => .Pow
def opC : COp → CmpOp
  | .eq => .Eq | .ne => .NotEq | .lt => .Lt | .le => .LtE | .gt => .Gt | .ge => .GtE | .is_ => .Is | .isnot => .IsNot | .in_ => .In | .notin => .NotIn

section
variable {W : Wd} {X : Cx} {F : Addr → Prop} {μ : List Addr} {H : Hp} {h : Hs}
theorem RVs.rep {W : Wd} {F : Addr → Prop} {μ : List Addr} {H : Hp} {vs : List Val} {xs : List L2.V} (q : RVs W F μ H vs xs) : ∀ n : Nat, RVs W F μ H (List.replicate n vs).flatten (List.replicate n xs).flatten
  | 0 => (rfl : _ = _)
  | n + 1 => by
    rw [List.replicate_succ, List.replicate_succ, List.flatten_cons, List.flatten_cons]
    exact RVs.append q (RVs.rep q n)
theorem most_line {n : Nat} (h : n ≤ most) : n ≤ sizeLine := Nat.le_trans h (by rw [sizeLine_eq]; decide)
theorem and2 {a b : Bool} (h : (a && b) = true) : a = true ∧ b = true := Bool.and_eq_true_iff.mp h
theorem sm_mul {i j : Int} (h : (sm i && sm j) = true) : CMulW i j := by
  obtain ⟨h1, h2⟩ := and2 h
  have h1' : i.natAbs < 2 ^ 400000 := of_decide_eq_true h1
  have h2' : j.natAbs < 2 ^ 400000 := of_decide_eq_true h2
  exact wide_mul h1' h2' (by decide) (by decide) (by decide)
theorem fd_ok {j : Int} (h : (decide (0 < j) && decide (j < 2 ^ 9000)) = true) : CDivW 0 j := by
  obtain ⟨h1, h2⟩ := and2 h
  have h1' : 0 < j := of_decide_eq_true h1
  have h2' : j < 2 ^ 9000 := of_decide_eq_true h2
  refine wide_div h1' (b := 9000) ?_ (by decide) (by decide)
  have h3 : (j.natAbs : Int) = j := Int.natAbs_of_nonneg (by omega)
  have h4 : (j.natAbs : Int) < ((2 ^ 9000 : Nat) : Int) := by
    rw [h3, Int.natCast_pow]
    exact h2'
  exact Int.ofNat_lt.mp h4
theorem seqT {v : List Val} {x : V} (r : RV W F μ H (.tup v) x) : ∃ a xs, x = .ref a ∧ SqT W.K H a xs ∧ RVs W F μ H v xs ∧ F a ∧ H a = some (.tup xs) := by
  obtain ⟨a, xs, e, f, g, q⟩ := r
  exact ⟨a, xs, e, SqT.of g, q, f, g⟩
theorem seqL {v : List Val} {x : V} (r : RV W F μ H (.lst v) x) : ∃ a xs, x = .ref a ∧ SqL W.K H a xs ∧ RVs W F μ H v xs ∧ F a ∧ H a = some (.lst xs) := by
  obtain ⟨a, xs, e, f, g, q⟩ := r
  exact ⟨a, xs, e, SqL.of g, q, f, g⟩
theorem seqS {v : List Int} {x : V} (r : RV W F μ H (.scr v) x) : ∃ a, x = .ref a ∧ SqL W.K H a (v.map V.int) := by
  obtain ⟨a, e, q⟩ := r
  rcases q with ⟨_, g⟩ | g
  · exact ⟨a, e, .inl g⟩
  · exact ⟨a, e, g H⟩
/-- a new tuple of values that stand -/
theorem newT (r : RSt W F μ H h) {vs : List Val} {xs : List V} (q : RVs W F μ H vs xs) {p : Addr} (n : H p = none) :
    RSt W (fun a => F a ∨ a = p) μ (upd H p (.tup xs)) h ∧ Stp F μ H (fun a => F a ∨ a = p) μ (upd H p (.tup xs)) ∧ RV W (fun a => F a ∨ a = p) μ (upd H p (.tup xs)) (.tup vs) (.ref p) := by
  have s : Stp F μ H (fun a => F a ∨ a = p) μ (upd H p (.tup xs)) := Stp.laid n (r.notM n) (r.notF n)
  exact ⟨r.laid n, s, p, xs, rfl, .inr rfl, upd_same, RVs.mono s vs xs q⟩
/-- what stands is handed back -/
theorem asIs (r : RSt W F μ H h) {v : Val} {x : V} {Q : VK} (q : RV W F μ H v x) (k : ∀ F' H' z, RSt W F' μ H' h → Stp F μ H F' μ H' → RV W F' μ H' v z → Q z H') : Q x H := k F H x r Stp.refl q

theorem op_B (hK : X.K = W.K) (o : BOp) : OpR X (binaryOp (opB o)) (rG W (binop o)) := by
  intro pins s σ H x y xv yv Q I rx ry hq
  obtain ⟨F, μ, h, v, w, u, r, hv, hw, e, k⟩ := hq
  have int2 : ∀ {i j : Int}, v = .int i → w = .int j → x = .int i ∧ y = .int j := fun {i j} e1 e2 => by
    subst e1 e2
    exact ⟨hv, hw⟩
  cases o with
  | add =>
    cases v with
    | int i =>
      have ex : x = .int i := hv
      cases w with
      | int j =>
        have ey : y = .int j := hw
        cases e
        exact op_add pins s σ H x y xv yv Q I rx ry ⟨i, j, ex, ey, k F H _ r Stp.refl rfl⟩
      | bl b =>
        have ey : y = .bl b := hw
        cases e
        exact op_add_ib pins s σ H x y xv yv Q I rx ry ⟨i, b, ex, ey, k F H _ r Stp.refl rfl⟩
      | _ => cases e
    | str a =>
      have ex : x = .str a := hv
      cases w with
      | str b =>
        have ey : y = .str b := hw
        have e' : (if a.length + b.length ≤ most then some (Val.str (a ++ b)) else none) = some u := e
        by_cases hl : a.length + b.length ≤ most
        · rw [if_pos hl] at e'
          cases e'
          exact op_add_str pins s σ H x y xv yv Q I rx ry ⟨a, b, ex, ey, most_line hl, k F H _ r Stp.refl rfl⟩
        · rw [if_neg hl] at e'
          cases e'
      | _ => cases e
    | tup vs =>
      cases w with
      | tup ws =>
        obtain ⟨a, xs, rfl, ta, qa, fa, ga⟩ := seqT hv
        obtain ⟨b, ys, rfl, tb, qb, fb, gb⟩ := seqT hw
        have e' : (if vs.length + ws.length ≤ most then some (Val.tup (vs ++ ws)) else none) = some u := e
        by_cases hl : vs.length + ws.length ≤ most
        · rw [if_pos hl] at e'
          cases e'
          refine op_catA pins s σ H _ _ xv yv Q I rx ry ⟨a, b, xs, ys, rfl, rfl, by rw [hK]; exact ta, by rw [hK]; exact tb, most_line (by rw [← RVs.length qa, ← RVs.length qb]; exact hl), fun z => ?_, fun _ z => ?_, fun _ _ p np => ?_⟩
          · subst z
            have ev : vs = [] := List.eq_nil_of_length_eq_zero (RVs.length qa)
            subst ev
            exact asIs r hw k
          · subst z
            have ev : ws = [] := List.eq_nil_of_length_eq_zero (RVs.length qb)
            subst ev
            rw [List.append_nil] at k
            exact asIs r hv k
          · obtain ⟨r1, s1, v1⟩ := newT r (RVs.append qa qb) np
            exact k _ _ _ r1 s1 v1
        · rw [if_neg hl] at e'
          cases e'
      | _ => cases e
    | _ => cases e
  | sub =>
    cases v with
    | int i => cases w with
      | int j =>
        obtain ⟨ex, ey⟩ := int2 rfl rfl
        cases e
        exact op_sub pins s σ H x y xv yv Q I rx ry ⟨i, j, ex, ey, k F H _ r Stp.refl rfl⟩
      | _ => cases e
    | _ => cases e
  | mul =>
    cases v with
    | int i => cases w with
      | int j =>
        obtain ⟨ex, ey⟩ := int2 rfl rfl
        have e' : (if (sm i && sm j) = true then some (Val.int (i * j)) else none) = some u := e
        by_cases hl : (sm i && sm j) = true
        · rw [if_pos hl] at e'
          cases e'
          exact op_mulW pins s σ H x y xv yv Q I rx ry ⟨i, j, ex, ey, sm_mul hl, k F H _ r Stp.refl rfl⟩
        · rw [if_neg hl] at e'
          cases e'
      | _ => cases e
    | tup vs => cases w with
      | int j =>
        have e' : (if ((decide (0 < vs.length) && decide (vs.length ≤ 1000)) && (decide (2 ≤ j) && decide (j ≤ 1000))) = true then some (Val.tup (List.replicate j.toNat vs).flatten) else none) = some u := e
        by_cases hl : ((decide (0 < vs.length) && decide (vs.length ≤ 1000)) && (decide (2 ≤ j) && decide (j ≤ 1000))) = true
        · rw [if_pos hl] at e'
          cases e'
          rw [Bool.and_eq_true, Bool.and_eq_true, Bool.and_eq_true, decide_eq_true_eq, decide_eq_true_eq, decide_eq_true_eq, decide_eq_true_eq] at hl
          obtain ⟨⟨l1, l2⟩, l3, l4⟩ := hl
          obtain ⟨a, xs, rfl, ta, qa, fa, ga⟩ := seqT hv
          have hw' : y = .int j := hw
          subst hw'
          have len := RVs.length qa
          refine op_repT pins s σ H _ _ xv yv Q I rx ry ⟨a, j, xs, rfl, rfl, by rw [hK]; exact ta, fun z => ?_, l3, l4, by omega, fun p np => ?_⟩
          · rw [z] at len
            rw [len] at l1
            exact absurd l1 (by decide)
          · obtain ⟨r1, s1, v1⟩ := newT r (RVs.rep qa j.toNat) np
            exact k _ _ _ r1 s1 v1
        · rw [if_neg hl] at e'
          cases e'
      | _ => cases e
    | _ => cases e
  | fdiv =>
    cases v with
    | int i => cases w with
      | int j =>
        obtain ⟨ex, ey⟩ := int2 rfl rfl
        have e' : (if (decide (0 < j) && decide (j < 2 ^ 9000)) = true then some (Val.int (i / j)) else none) = some u := e
        by_cases hl : (decide (0 < j) && decide (j < 2 ^ 9000)) = true
        · rw [if_pos hl] at e'
          cases e'
          exact op_fdivW pins s σ H x y xv yv Q I rx ry ⟨i, j, ex, ey, fd_ok hl, k F H _ r Stp.refl rfl⟩
        · rw [if_neg hl] at e'
          cases e'
      | _ => cases e
    | _ => cases e
  | mod =>
    cases v with
    | int i => cases w with
      | int j =>
        obtain ⟨ex, ey⟩ := int2 rfl rfl
        have e' : (if decide (0 < j) = true then some (Val.int (i % j)) else none) = some u := e
        by_cases hl : 0 < j
        · rw [if_pos (decide_eq_true hl)] at e'
          cases e'
          exact op_mod pins s σ H x y xv yv Q I rx ry ⟨i, j, ex, ey, hl, k F H _ r Stp.refl rfl⟩
        · rw [decide_eq_false hl] at e'
          cases e'
      | _ => cases e
    | _ => cases e
  | pow =>
    cases v with
    | int i => cases w with
      | int j =>
        obtain ⟨ex, ey⟩ := int2 rfl rfl
        have e' : (if (decide (0 ≤ j) && (decide (j ≤ 100) && decide (i.natAbs < 2 ^ 100000))) = true then some (Val.int (i ^ j.toNat)) else none) = some u := e
        by_cases hl : (decide (0 ≤ j) && (decide (j ≤ 100) && decide (i.natAbs < 2 ^ 100000))) = true
        · rw [if_pos hl] at e'
          cases e'
          obtain ⟨h1, h2⟩ := and2 hl
          obtain ⟨h2, h3⟩ := and2 h2
          have h1' : 0 ≤ j := of_decide_eq_true h1
          have h2' : j ≤ 100 := of_decide_eq_true h2
          have h3' : i.natAbs < 2 ^ 100000 := of_decide_eq_true h3
          subst ex ey
          obtain ⟨t, rfl⟩ := rx
          obtain ⟨t', rfl⟩ := ry
          refine pow_int h1' ?_ ⟨.int _, H, I.tok _, ⟨_, rfl⟩, k F H _ r Stp.refl rfl⟩
          have hb : Builtin.Int.intBits i ≤ 100001 := by
            have l := PySem.Flt.log2_lt_of (k := 100000) (by decide) h3'
            unfold Builtin.Int.intBits
            split <;> omega
          have hm : (Builtin.Int.intBits i : Int) * j ≤ 100001 * 100 := Int.mul_le_mul (by omega) h2' h1' (by omega)
          exact Int.le_trans hm (by decide)
        · rw [if_neg hl] at e'
          cases e'
      | _ => cases e
    | _ => cases e

/-! ### == -/
mutual
theorem canLay_D : ∀ v : Val, isD v = true → strsOk v = true → (toD v).canLay0 = true
  | .non, _, _ => rfl
  | .bl _, _, _ => rfl
  | .int _, _, _ => rfl
  | .str x, _, h => h
  | .tup vs, h, h' => canLay_Ds vs h h'
  | .lst vs, h, h' => canLay_Ds vs h h'
  | .scr _, h, _ => by cases h
  | .dct _ _, h, _ => by cases h
  | .inst _ _ _, h, _ => by cases h
  | .exn _ _, h, _ => by cases h
  | .ref _, h, _ => by cases h
theorem canLay_Ds : ∀ vs : List Val, isDs vs = true → strsOks vs = true → PyData.canLayAll0 (toDs vs) = true
  | [], _, _ => rfl
  | v :: vs, h, h' => by
    obtain ⟨a, b⟩ := and2 (show (isD v && isDs vs) = true from h)
    obtain ⟨a', b'⟩ := and2 (show (strsOk v && strsOks vs) = true from h')
    show ((toD v).canLay0 && PyData.canLayAll0 (toDs vs)) = true
    rw [canLay_D v a a', canLay_Ds vs b b']
    rfl
end
mutual
theorem dep_D : ∀ v : Val, (toD v).depth ≤ dep v
  | .non => Nat.le_refl _
  | .bl _ => Nat.le_refl _
  | .int _ => Nat.le_refl _
  | .str _ => Nat.le_refl _
  | .tup vs => Nat.succ_le_succ (dep_Ds vs)
  | .lst vs => Nat.succ_le_succ (dep_Ds vs)
  | .scr _ => Nat.zero_le _
  | .dct _ _ => Nat.zero_le _
  | .inst _ _ _ => Nat.zero_le _
  | .exn _ _ => Nat.zero_le _
  | .ref _ => Nat.zero_le _
theorem dep_Ds : ∀ vs : List Val, PyData.depthAll (toDs vs) ≤ deps vs
  | [] => Nat.le_refl _
  | v :: vs => by
    show max (toD v).depth (PyData.depthAll (toDs vs)) ≤ max (dep v) (deps vs)
    have h1 := dep_D v
    have h2 := dep_Ds vs
    omega
end
mutual
theorem dp_D : ∀ (v : Val) (x : V), isD v = true → RV W F μ H v x → Dp W.K H x (toD v)
  | .non, x, _, r => by
    have e : x = .non := r
    rw [e]
    exact .non
  | .bl b, x, _, r => by
    have e : x = .bl b := r
    rw [e]
    exact .bl b
  | .int b, x, _, r => by
    have e : x = .int b := r
    rw [e]
    exact .int b
  | .str b, x, _, r => by
    have e : x = .str b := r
    rw [e]
    exact .str b
  | .tup vs, x, h, r => by
    obtain ⟨a, xs, rfl, t, q, _, _⟩ := seqT r
    exact .tup t (dp_Ds vs xs h q)
  | .lst vs, x, h, r => by
    obtain ⟨a, xs, rfl, t, q, _, _⟩ := seqL r
    exact .lst t (dp_Ds vs xs h q)
  | .scr _, _, h, _ => by cases h
  | .dct _ _, _, h, _ => by cases h
  | .inst _ _ _, _, h, _ => by cases h
  | .exn _ _, _, h, _ => by cases h
  | .ref _, _, h, _ => by cases h
theorem dp_Ds : ∀ (vs : List Val) (xs : List V), isDs vs = true → RVs W F μ H vs xs → DpAll W.K H xs (toDs vs)
  | [], xs, _, r => by
    have e : xs = [] := r
    rw [e]
    exact .nil
  | v :: vs, xs, h, r => by
    obtain ⟨x, q, rfl, h1, h2⟩ := r
    obtain ⟨a, b⟩ := and2 (show (isD v && isDs vs) = true from h)
    exact .cons (dp_D v x a h1) (dp_Ds vs q b h2)
end
mutual
theorem eqv_D : ∀ (v w : Val), isD v = true → isD w = true → PyData.eqv (toD v) (toD w) = veq v w
  | .non, w, _, h => by cases w <;> first | rfl | cases h
  | .bl a, w, _, h => by cases w <;> first | rfl | cases h
  | .int i, w, _, h => by cases w <;> first | rfl | cases h
  | .str x, w, _, h => by cases w <;> first | rfl | cases h
  | .tup vs, w, h', h => by
    cases w with
    | tup ws => exact eqv_Ds vs ws h' h
    | _ => first | rfl | cases h
  | .lst vs, w, h', h => by
    cases w with
    | lst ws => exact eqv_Ds vs ws h' h
    | _ => first | rfl | cases h
  | .scr _, _, h, _ => by cases h
  | .dct _ _, _, h, _ => by cases h
  | .inst _ _ _, _, h, _ => by cases h
  | .exn _ _, _, h, _ => by cases h
  | .ref _, _, h, _ => by cases h
theorem eqv_Ds : ∀ (vs ws : List Val), isDs vs = true → isDs ws = true → PyData.eqvAll (toDs vs) (toDs ws) = veqs vs ws
  | [], [], _, _ => rfl
  | [], _ :: _, _, _ => rfl
  | _ :: _, [], _, _ => rfl
  | v :: vs, w :: ws, h, h' => by
    obtain ⟨a, b⟩ := and2 (show (isD v && isDs vs) = true from h)
    obtain ⟨a', b'⟩ := and2 (show (isD w && isDs ws) = true from h')
    show (PyData.eqv (toD v) (toD w) && PyData.eqvAll (toDs vs) (toDs ws)) = (veq v w && veqs vs ws)
    rw [eqv_D v w a a', eqv_Ds vs ws b b']
end
theorem shaped_of {v : Val} (h : eqOk v = true) (h' : strsOk v = true) : SeqAt.shaped (toD v) = true := by
  obtain ⟨a, b⟩ := and2 h
  have b' : dep v ≤ 60 := of_decide_eq_true b
  have d := dep_D v
  unfold SeqAt.shaped
  rw [canLay_D v a h', decide_eq_true (show (toD v).depth ≤ 64 by omega)]
  rfl
/-- the items beside a value -/
theorem any_in {v : Val} (e : Value → Bool) (he : ∀ w y z, RV W F μ H w y → RelV y z → eqOk w = true → strsOk w = true → e z = veq w v) :
    ∀ {ws : List Val} {ys : List L2.V} {its : List Value}, RVs W F μ H ws ys → Vals ys its → ws.all (fun w => eqOk w && strsOk w) = true → its.any e = ws.any fun w => veq w v
  | [], ys, its, q, r, _ => by
    have e : ys = [] := q
    subst e
    cases r
    rfl
  | w :: ws, ys, its, q, r, h => by
    obtain ⟨y, yr, rfl, q1, q2⟩ := q
    cases r with
    | cons r1 r2 =>
      obtain ⟨h1, h2⟩ := and2 (show ((eqOk w && strsOk w) && ws.all (fun w => eqOk w && strsOk w)) = true from h)
      obtain ⟨h3, h4⟩ := and2 h1
      rw [List.any_cons, List.any_cons, he w y _ q1 r1 h3 h4, any_in e he q2 r2 h2]
theorem val_mem {ys : List L2.V} {its : List Value} (r : Vals ys its) {ws : List Val} (q : RVs W F μ H ws ys) {u : Value} (hu : u ∈ its) : ∃ w y, w ∈ ws ∧ RV W F μ H w y ∧ RelV y u := by
  obtain ⟨i, hi, e⟩ := List.mem_iff_getElem.mp hu
  have l : ys.length = its.length := r.length
  have l2 := RVs.length q
  have hw : i < ws.length := by omega
  obtain ⟨y, ey, ry⟩ := RVs.get q (List.getElem?_eq_getElem hw)
  obtain ⟨z, ez, rz⟩ := r.get ey
  rw [List.getElem?_eq_getElem hi, e] at ez
  cases ez
  exact ⟨_, y, List.getElem_mem hw, ry, rz⟩
open Classical in
/-- what the items are beside a value, by their own reading -/
noncomputable def seenEq (s : Shared) (d0 : PyData) (u : Value) : Bool := decide (∃ d as, Reads s.heap u d as ∧ d.canLay0 = true ∧ PyData.eqv d d0 = true)
theorem in_core {A : Around} {s : Shared} {pins : List (Addr × Obj)} {σ : L2.St} {v : Val} {x : L2.V} {xv : Value} (hK : X.K = W.K) (hu : A.units + 64 < cLine) (I : Inv X pins σ H s) (hv : RV W F μ H v x) (rx : RelV x xv) (ev : eqOk v = true) (sv : strsOk v = true) :
    ∀ w y z, RV W F μ H w y → RelV y z → eqOk w = true → strsOk w = true → seenEq s (toD v) z = veq w v ∧ SeqAt.EqAt A.in1 s z xv (veq w v) := by
  intro w y z hw rz ew sw
  obtain ⟨d1, d2⟩ := and2 (show (isD v && decide (dep v ≤ 60)) = true from ev)
  obtain ⟨d3, d4⟩ := and2 (show (isD w && decide (dep w ≤ 60)) = true from ew)
  obtain ⟨as, r1⟩ := Dp.reads I (toD v) x xv (by rw [hK]; exact dp_D v x d1 hv) rx
  obtain ⟨bs, r2⟩ := Dp.reads I (toD w) y z (by rw [hK]; exact dp_D w y d3 hw) rz
  have c2 := canLay_D w d3 sw
  have c1 := canLay_D v d1 sv
  have e := eqv_D w v d3 d1
  constructor
  · unfold seenEq
    cases hq : veq w v with
    | true =>
      rw [hq] at e
      exact @decide_eq_true _ (Classical.propDecidable _) ⟨_, _, r2, c2, e⟩
    | false =>
      rw [hq] at e
      refine @decide_eq_false _ (Classical.propDecidable _) fun z => ?_
      obtain ⟨d, cs, r3, c3, e3⟩ := z
      have ed := SeqAt.Reads.unique _ _ _ _ _ c3 r3 r2
      rw [ed, e] at e3
      cases e3
  · rw [← e]
    refine SeqAt.eqAt_reads _ _ _ _ _ _ _ _ r2 r1 c2 c1 ?_
    have h1 : (toD w).depth ≤ 60 := Nat.le_trans (dep_D w) (of_decide_eq_true d4)
    have h2 : A.in1.units ≤ A.units + 1 := Nat.le_refl _
    have h3 : min (toD w).depth (toD v).depth ≤ (toD w).depth := Nat.min_le_left _ _
    omega
/-- a comparison, as a truth -/
def rC (W : Wd) (o : COp) : R2 := rG W (fun v w => (cmpop o v w).map .bl)
theorem op_C (hK : X.K = W.K) (hu : X.A.units + 64 < cLine) (o : COp) : OpR X (compareOp (opC o)) (rC W o) := by
  intro pins s σ H x y xv yv Q I rx ry hq
  obtain ⟨F, μ, h, v, w, u, r, hv, hw, e, k⟩ := hq
  obtain ⟨b, eb, eu⟩ := Option.map_eq_some_iff.mp e
  subst eu
  have fin : Q (.bl b) H := k F H _ r Stp.refl rfl
  have isN : ∀ {b : Bool}, isNon v = b → b = decide (x = V.non) := fun {b} q => by
    cases v with
    | non =>
      have ex : x = .non := hv
      rw [ex, ← q]
      rfl
    | bl c =>
      have ex : x = .bl c := hv
      rw [ex, ← q]
      rfl
    | int c =>
      have ex : x = .int c := hv
      rw [ex, ← q]
      rfl
    | str c =>
      have ex : x = .str c := hv
      rw [ex, ← q]
      rfl
    | tup vs =>
      obtain ⟨a, _, ex, _⟩ := hv
      rw [ex, ← q]
      rfl
    | lst vs =>
      obtain ⟨a, _, ex, _⟩ := hv
      rw [ex, ← q]
      rfl
    | scr vs =>
      obtain ⟨a, ex, _⟩ := hv
      rw [ex, ← q]
      rfl
    | dct _ _ =>
      obtain ⟨a, _, ex, _⟩ := hv
      rw [ex, ← q]
      rfl
    | inst _ _ _ =>
      obtain ⟨a, _, _, ex, _⟩ := hv
      rw [ex, ← q]
      rfl
    | exn _ _ => exact hv.elim
    | ref n =>
      obtain ⟨a, _, ex⟩ := hv
      rw [ex, ← q]
      rfl
  have two : ∀ {i j : Int}, v = .int i → w = .int j → x = .int i ∧ y = .int j := fun {i j} e1 e2 => by
    subst e1 e2
    exact ⟨hv, hw⟩
  cases o with
  | lt => cases v with
    | int i => cases w with
      | int j =>
        obtain ⟨ex, ey⟩ := two rfl rfl
        cases eb
        exact op_lt pins s σ H x y xv yv Q I rx ry ⟨i, j, ex, ey, fin⟩
      | _ => cases eb
    | _ => cases eb
  | le => cases v with
    | int i => cases w with
      | int j =>
        obtain ⟨ex, ey⟩ := two rfl rfl
        cases eb
        exact op_le pins s σ H x y xv yv Q I rx ry ⟨i, j, ex, ey, fin⟩
      | _ => cases eb
    | _ => cases eb
  | gt => cases v with
    | int i => cases w with
      | int j =>
        obtain ⟨ex, ey⟩ := two rfl rfl
        cases eb
        exact op_gt pins s σ H x y xv yv Q I rx ry ⟨i, j, ex, ey, fin⟩
      | _ => cases eb
    | _ => cases eb
  | ge => cases v with
    | int i => cases w with
      | int j =>
        obtain ⟨ex, ey⟩ := two rfl rfl
        cases eb
        exact op_ge pins s σ H x y xv yv Q I rx ry ⟨i, j, ex, ey, fin⟩
      | _ => cases eb
    | _ => cases eb
  | is_ =>
    cases w with
    | non =>
      have ey : y = .non := hw
      have eb' : isNon v = b := by
        cases v <;> exact Option.some.inj eb
      rw [isN eb'] at fin
      exact op_isN pins s σ H x y xv yv Q I rx ry ⟨ey, fin⟩
    | bl c => cases v with
      | bl a =>
        have ex : x = .bl a := hv
        have ey : y = .bl c := hw
        have eb' : (a == c) = b := Option.some.inj eb
        refine op_isBl pins s σ H x y xv yv Q I rx ry ⟨a, c, ex, ey, ?_⟩
        rw [← eb'] at fin
        exact fin
      | _ => cases eb
    | _ => cases v <;> cases eb
  | isnot =>
    cases w with
    | non =>
      have ey : y = .non := hw
      have eb' : isNon v = !b := by
        cases v <;> (have q := Option.some.inj eb; rw [← q] <;> rfl)
      have q := isN eb'
      refine op_notN pins s σ H x y xv yv Q I rx ry ⟨ey, ?_⟩
      rw [← q, Bool.not_not]
      exact fin
    | bl c => cases v with
      | bl a =>
        have ex : x = .bl a := hv
        have ey : y = .bl c := hw
        have eb' : (a != c) = b := Option.some.inj eb
        refine op_notBl pins s σ H x y xv yv Q I rx ry ⟨a, c, ex, ey, ?_⟩
        rw [← eb'] at fin
        exact fin
      | _ => cases eb
    | _ => cases v <;> cases eb
  | eq =>
    have eb' : (if (eqOk v && eqOk w && (strsOk v && strsOk w)) = true then some (veq v w) else none) = some b := by
      cases v <;> cases w <;> exact eb
    by_cases hc : (eqOk v && eqOk w && (strsOk v && strsOk w)) = true
    · rw [if_pos hc] at eb'
      cases eb'
      obtain ⟨h1, h2⟩ := and2 hc
      obtain ⟨h1, h3⟩ := and2 h1
      obtain ⟨h2, h4⟩ := and2 h2
      have d1 := (and2 (show (isD v && decide (dep v ≤ 60)) = true from h1)).1
      have d2 := (and2 (show (isD w && decide (dep w ≤ 60)) = true from h3)).1
      refine op_eqD hu pins s σ H x y xv yv Q I rx ry ⟨toD v, toD w, by rw [hK]; exact dp_D v x d1 hv, by rw [hK]; exact dp_D w y d2 hw, shaped_of h1 h2, shaped_of h3 h4, ?_⟩
      rw [eqv_D v w d1 d2]
      exact fin
    · rw [if_neg hc] at eb'
      cases eb'
  | ne =>
    have eb' : (if (eqOk v && eqOk w && (strsOk v && strsOk w)) = true then some (!veq v w) else none) = some b := by
      cases v <;> cases w <;> exact eb
    by_cases hc : (eqOk v && eqOk w && (strsOk v && strsOk w)) = true
    · rw [if_pos hc] at eb'
      cases eb'
      obtain ⟨h1, h2⟩ := and2 hc
      obtain ⟨h1, h3⟩ := and2 h1
      obtain ⟨h2, h4⟩ := and2 h2
      have d1 := (and2 (show (isD v && decide (dep v ≤ 60)) = true from h1)).1
      have d2 := (and2 (show (isD w && decide (dep w ≤ 60)) = true from h3)).1
      refine op_neD hu pins s σ H x y xv yv Q I rx ry ⟨toD v, toD w, by rw [hK]; exact dp_D v x d1 hv, by rw [hK]; exact dp_D w y d2 hw, shaped_of h1 h2, shaped_of h3 h4, ?_⟩
      rw [eqv_D v w d1 d2]
      exact fin
    · rw [if_neg hc] at eb'
      cases eb'
  | in_ =>
    have eb' : inV v w = some b := by cases v <;> cases w <;> exact eb
    cases w with
    | str j =>
      cases v with
      | str i =>
        have ex : x = .str i := hv
        have ey : y = .str j := hw
        cases eb'
        exact op_in_str pins s σ H x y xv yv Q I rx ry ⟨i, j, ex, ey, fin⟩
      | _ => cases eb'
    | tup ws =>
      have e2 : inL v ws = some b := by cases v <;> exact eb'
      obtain ⟨a, ys, rfl, t, q, _, _⟩ := seqT hw
      cases ry
      unfold inL at e2
      by_cases hc : ((eqOk v && strsOk v) && ws.all (fun w => eqOk w && strsOk w)) = true
      · rw [if_pos hc] at e2
        cases e2
        obtain ⟨c1, c2⟩ := and2 hc
        obtain ⟨c1, c3⟩ := and2 c1
        have core := in_core (A := X.A) hK hu I hv rx c1 c3
        obtain ⟨its, rr, pl, _⟩ := I.tuple (by rw [hK]; exact t)
        refine SeqAt.in_tupleAt (seenEq s (toD v)) pl (fun z hz => ?_) ⟨.bl _, H, I, rfl, ?_⟩
        · obtain ⟨w1, y1, m1, r1, r2⟩ := val_mem rr q (by simpa using hz)
          obtain ⟨o1, o2⟩ := and2 (List.all_eq_true.mp c2 w1 m1)
          obtain ⟨k1, k2⟩ := core w1 y1 z r1 r2 o1 o2
          rw [k1]
          exact k2
        · rw [show its.toArray.any (seenEq s (toD v)) = its.any (seenEq s (toD v)) by simp, any_in _ (fun w1 y1 z r1 r2 o1 o2 => (core w1 y1 z r1 r2 o1 o2).1) q rr c2]
          exact fin
      · rw [if_neg hc] at e2
        cases e2
    | lst ws =>
      have e2 : inL v ws = some b := by cases v <;> exact eb'
      obtain ⟨a, ys, rfl, t, q, _, _⟩ := seqL hw
      cases ry
      unfold inL at e2
      by_cases hc : ((eqOk v && strsOk v) && ws.all (fun w => eqOk w && strsOk w)) = true
      · rw [if_pos hc] at e2
        cases e2
        obtain ⟨c1, c2⟩ := and2 hc
        obtain ⟨c1, c3⟩ := and2 c1
        have core := in_core (A := X.A) hK hu I hv rx c1 c3
        obtain ⟨its, rr, pl, _⟩ := I.list (by rw [hK]; exact t)
        refine SeqAt.in_listAt (seenEq s (toD v)) pl.isList (fun z hz => ?_) ⟨.bl _, H, I, rfl, ?_⟩
        · obtain ⟨w1, y1, m1, r1, r2⟩ := val_mem rr q (by simpa using hz)
          obtain ⟨o1, o2⟩ := and2 (List.all_eq_true.mp c2 w1 m1)
          obtain ⟨k1, k2⟩ := core w1 y1 z r1 r2 o1 o2
          rw [k1]
          exact k2
        · rw [show its.toArray.any (seenEq s (toD v)) = its.any (seenEq s (toD v)) by simp, any_in _ (fun w1 y1 z r1 r2 o1 o2 => (core w1 y1 z r1 r2 o1 o2).1) q rr c2]
          exact fin
      · rw [if_neg hc] at e2
        cases e2
    | _ => cases v <;> cases eb'
  | notin =>
    have eb1 : (inV v w).map (!·) = some b := by cases v <;> cases w <;> exact eb
    obtain ⟨b', eb', rfl⟩ := Option.map_eq_some_iff.mp eb1
    clear eb1
    cases w with
    | str j =>
      cases v with
      | str i =>
        have ex : x = .str i := hv
        have ey : y = .str j := hw
        cases eb'
        exact op_notin_str pins s σ H x y xv yv Q I rx ry ⟨i, j, ex, ey, fin⟩
      | _ => cases eb'
    | tup ws =>
      have e2 : inL v ws = some b' := by cases v <;> exact eb'
      obtain ⟨a, ys, rfl, t, q, _, _⟩ := seqT hw
      cases ry
      unfold inL at e2
      by_cases hc : ((eqOk v && strsOk v) && ws.all (fun w => eqOk w && strsOk w)) = true
      · rw [if_pos hc] at e2
        cases e2
        obtain ⟨c1, c2⟩ := and2 hc
        obtain ⟨c1, c3⟩ := and2 c1
        have core := in_core (A := X.A) hK hu I hv rx c1 c3
        obtain ⟨its, rr, pl, _⟩ := I.tuple (by rw [hK]; exact t)
        refine SeqAt.notIn_tupleAt (seenEq s (toD v)) pl (fun z hz => ?_) ⟨.bl _, H, I, rfl, ?_⟩
        · obtain ⟨w1, y1, m1, r1, r2⟩ := val_mem rr q (by simpa using hz)
          obtain ⟨o1, o2⟩ := and2 (List.all_eq_true.mp c2 w1 m1)
          obtain ⟨k1, k2⟩ := core w1 y1 z r1 r2 o1 o2
          rw [k1]
          exact k2
        · rw [show its.toArray.any (seenEq s (toD v)) = its.any (seenEq s (toD v)) by simp, any_in _ (fun w1 y1 z r1 r2 o1 o2 => (core w1 y1 z r1 r2 o1 o2).1) q rr c2]
          exact fin
      · rw [if_neg hc] at e2
        cases e2
    | lst ws =>
      have e2 : inL v ws = some b' := by cases v <;> exact eb'
      obtain ⟨a, ys, rfl, t, q, _, _⟩ := seqL hw
      cases ry
      unfold inL at e2
      by_cases hc : ((eqOk v && strsOk v) && ws.all (fun w => eqOk w && strsOk w)) = true
      · rw [if_pos hc] at e2
        cases e2
        obtain ⟨c1, c2⟩ := and2 hc
        obtain ⟨c1, c3⟩ := and2 c1
        have core := in_core (A := X.A) hK hu I hv rx c1 c3
        obtain ⟨its, rr, pl, _⟩ := I.list (by rw [hK]; exact t)
        refine SeqAt.notIn_listAt (seenEq s (toD v)) pl.isList (fun z hz => ?_) ⟨.bl _, H, I, rfl, ?_⟩
        · obtain ⟨w1, y1, m1, r1, r2⟩ := val_mem rr q (by simpa using hz)
          obtain ⟨o1, o2⟩ := and2 (List.all_eq_true.mp c2 w1 m1)
          obtain ⟨k1, k2⟩ := core w1 y1 z r1 r2 o1 o2
          rw [k1]
          exact k2
        · rw [show its.toArray.any (seenEq s (toD v)) = its.any (seenEq s (toD v)) by simp, any_in _ (fun w1 y1 z r1 r2 o1 o2 => (core w1 y1 z r1 r2 o1 o2).1) q rr c2]
          exact fin
      · rw [if_neg hc] at e2
        cases e2
    | _ => cases v <;> cases eb'
end
end Pyi
set_option Elab.async false
set_option linter.all false
set_option maxRecDepth 100000
set_option maxHeartbeats 1000000
/-! Items, slices, built-in functions. -/
namespace Pyi
open PySem PySem.Spec PyProof.Rows L2

section
variable {W : Wd} {X : Cx} {F : Addr → Prop} {μ : List Addr} {H : Hp} {h : Hs}
theorem ixN_eq : Pyi.ixN = L2.ixN := rfl
theorem atI_eq {α : Type} (xs : List α) (i : Int) : Pyi.atI xs i = L2.atI xs i := rfl
theorem sIx_eq : Pyi.sIx = HT.sIx := by
  funext n d o
  cases o <;> rfl
theorem atI_rel {vs : List Val} {xs : List V} {i : Int} {v : Val} (q : RVs W F μ H vs xs) (e : Pyi.atI vs i = some v) : ∃ x, L2.atI xs i = some x ∧ RV W F μ H v x := by
  have l := RVs.length q
  unfold Pyi.atI at e
  cases hn : Pyi.ixN vs.length i with
  | none =>
    rw [hn] at e
    cases e
  | some j =>
    rw [hn] at e
    obtain ⟨x, e1, r⟩ := RVs.get q (show vs[j]? = some v from e)
    refine ⟨x, ?_, r⟩
    unfold L2.atI
    rw [← l, ← ixN_eq, hn]
    exact e1
theorem map_atI {ns : List Int} {i k : Int} (e : Pyi.atI ns i = some k) : L2.atI (ns.map V.int) i = some (.int k) := by
  unfold Pyi.atI at e
  unfold L2.atI
  rw [List.length_map, ← ixN_eq]
  cases hn : Pyi.ixN ns.length i with
  | none =>
    rw [hn] at e
    cases e
  | some j =>
    rw [hn] at e
    have e' : ns[j]? = some k := e
    show (ns.map V.int)[j]? = some (.int k)
    rw [List.getElem?_map, e']
    rfl
theorem ix_G (hK : X.K = W.K) : IxR X (rG W getI) := by
  intro value slice pins s σ H x y xv yv Q I rx ry hq hs
  obtain ⟨F, μ, h, v, w, u, r, hv, hw, e, k⟩ := hq
  cases w with
  | int i =>
    have ey : y = .int i := hw
    cases v with
    | tup vs =>
      obtain ⟨a, xs, rfl, t, q, _, _⟩ := seqT hv
      obtain ⟨z, e1, r1⟩ := atI_rel q (show Pyi.atI vs i = some u from e)
      exact ix_tup value slice pins s σ H _ _ xv yv Q I rx ry ⟨a, xs, i, z, rfl, ey, by rw [hK]; exact t, e1, k F H z r Stp.refl r1⟩ hs
    | lst vs =>
      obtain ⟨a, xs, rfl, t, q, _, _⟩ := seqL hv
      obtain ⟨z, e1, r1⟩ := atI_rel q (show Pyi.atI vs i = some u from e)
      exact ix_list value slice pins s σ H _ _ xv yv Q I rx ry ⟨a, xs, i, z, rfl, ey, by rw [hK]; exact t, e1, k F H z r Stp.refl r1⟩ hs
    | scr ns =>
      obtain ⟨a, rfl, t⟩ := seqS hv
      obtain ⟨j, e1, e2⟩ := Option.map_eq_some_iff.mp (show (Pyi.atI ns i).map Val.int = some u from e)
      subst e2
      exact ix_list value slice pins s σ H _ _ xv yv Q I rx ry ⟨a, _, i, .int j, rfl, ey, by rw [hK]; exact t, map_atI e1, k F H _ r Stp.refl rfl⟩ hs
    | str z =>
      have ex : x = .str z := hv
      have e' : (if z.length ≤ most then (Pyi.atI z.cps.toList i).map fun c => Val.str ⟨#[c]⟩ else none) = some u := e
      by_cases hl : z.length ≤ most
      · rw [if_pos hl] at e'
        obtain ⟨c, e1, e2⟩ := Option.map_eq_some_iff.mp e'
        subst e2
        exact ix_str value slice pins s σ H _ _ xv yv Q I rx ry ⟨z, i, c, ex, ey, most_line hl, e1, k F H _ r Stp.refl rfl⟩ hs
      · rw [if_neg hl] at e'
        cases e'
    | _ => cases e
  | _ => cases v <;> cases e
/-- a new list that nobody changes -/
theorem newFL (r : RSt W F μ H h) {vs : List Val} {xs : List V} (q : RVs W F μ H vs xs) {p : Addr} (n : H p = none) :
    RSt W (fun a => F a ∨ a = p) μ (upd H p (.lst xs)) h ∧ Stp F μ H (fun a => F a ∨ a = p) μ (upd H p (.lst xs)) ∧ RV W (fun a => F a ∨ a = p) μ (upd H p (.lst xs)) (.lst vs) (.ref p) := by
  have s : Stp F μ H (fun a => F a ∨ a = p) μ (upd H p (.lst xs)) := Stp.laid n (r.notM n) (r.notF n)
  exact ⟨r.laid n, s, p, xs, rfl, .inr rfl, upd_same, RVs.mono s vs xs q⟩
theorem cut_rel {vs : List Val} {xs : List V} (lo hi : Option Int) (q : RVs W F μ H vs xs) : RVs W F μ H (cut vs lo hi) (cutV xs lo hi) := by
  unfold cut cutV
  rw [sIx_eq, RVs.length q]
  exact RVs.take _ (RVs.drop _ q)
/-- a slice, by values -/
def rGS (W : Wd) : V → Option Int → Option Int → Hp → VK → Prop := fun x lo hi H Q => ∃ F μ h v u, RSt W F μ H h ∧ RV W F μ H v x ∧ getS v lo hi = some u ∧
  ∀ F' H' z, RSt W F' μ H' h → Stp F μ H F' μ H' → RV W F' μ H' u z → Q z H'
theorem sl_G (hK : X.K = W.K) : SlR X (rGS W) := by
  intro pins s σ H x xv vl vu lo hi sl Q I rx hs pl pu hq
  obtain ⟨F, μ, h, v, u, r, hv, e, k⟩ := hq
  cases v with
  | tup vs =>
    obtain ⟨a, xs, rfl, t, q, fa, ga⟩ := seqT hv
    have e' : Val.tup (cut vs lo hi) = u := Option.some.inj e
    subst e'
    refine sl_tupA pins s σ H _ xv vl vu lo hi sl Q I rx hs pl pu ⟨a, xs, rfl, by rw [hK]; exact t, fun hw => ?_, fun _ p np => ?_⟩
    · have ec : cut vs lo hi = vs := by
        unfold cut
        rw [sIx_eq, RVs.length q, hw.1, hw.2, List.drop_zero, Nat.sub_zero, ← RVs.length q, List.take_length]
      rw [ec] at k
      exact asIs r hv k
    · obtain ⟨r1, s1, v1⟩ := newT r (cut_rel lo hi q) np
      exact k _ _ _ r1 s1 v1
  | lst vs =>
    obtain ⟨a, xs, rfl, t, q, fa, ga⟩ := seqL hv
    have e' : Val.lst (cut vs lo hi) = u := Option.some.inj e
    subst e'
    refine sl_list pins s σ H _ xv vl vu lo hi sl Q I rx hs pl pu ⟨a, xs, rfl, by rw [hK]; exact t, fun p np => ?_⟩
    obtain ⟨r1, s1, v1⟩ := newFL r (cut_rel lo hi q) np
    exact k _ _ _ r1 s1 v1
  | str z =>
    have ex : x = .str z := hv
    have e' : (if z.length ≤ most then some (Val.str ⟨(cut z.cps.toList lo hi).toArray⟩) else none) = some u := e
    by_cases hl : z.length ≤ most
    · rw [if_pos hl] at e'
      cases e'
      have ec : (⟨(cut z.cps.toList lo hi).toArray⟩ : Str) = cutS z lo hi := by
        unfold cut cutS
        rw [sIx_eq, show z.cps.toList.length = z.length from Array.length_toList]
      refine sl_str pins s σ H _ xv vl vu lo hi sl Q I rx hs pl pu ⟨z, ex, most_line hl, ?_⟩
      rw [← ec]
      exact k F H _ r Stp.refl rfl
    · rw [if_neg hl] at e'
      cases e'
  | _ => cases e

/-! ### repr -/
mutual
theorem showable_D : ∀ v : Val, isD v = true → showI v = true → (toD v).showable = true
  | .non, _, _ => rfl
  | .bl _, _, _ => rfl
  | .int i, _, h => by
    have h' : i.natAbs < 2 ^ 1900 := of_decide_eq_true h
    have l := PySem.Flt.log2_lt_of (k := 1900) (by decide) h'
    show decide (i.natAbs.log2 < 1920) = true
    exact decide_eq_true (by omega)
  | .str x, _, h => rfl
  | .tup vs, h, h' => showable_Ds vs h h'
  | .lst vs, h, h' => showable_Ds vs h h'
  | .scr _, h, _ => by cases h
  | .dct _ _, h, _ => by cases h
  | .inst _ _ _, h, _ => by cases h
  | .exn _ _, h, _ => by cases h
  | .ref _, h, _ => by cases h
theorem showable_Ds : ∀ vs : List Val, isDs vs = true → showIs vs = true → PyData.showableAll (toDs vs) = true
  | [], _, _ => rfl
  | v :: vs, h, h' => by
    obtain ⟨a, b⟩ := and2 (show (isD v && isDs vs) = true from h)
    obtain ⟨a', b'⟩ := and2 (show (showI v && showIs vs) = true from h')
    show ((toD v).showable && PyData.showableAll (toDs vs)) = true
    rw [showable_D v a a', showable_Ds vs b b']
    rfl
end
mutual
theorem noDict_D : ∀ v : Val, (toD v).hasDict = false
  | .non => rfl
  | .bl _ => rfl
  | .int _ => rfl
  | .str _ => rfl
  | .tup vs => noDict_Ds vs
  | .lst vs => noDict_Ds vs
  | .scr _ => rfl
  | .dct _ _ => rfl
  | .inst _ _ _ => rfl
  | .exn _ _ => rfl
  | .ref _ => rfl
theorem noDict_Ds : ∀ vs : List Val, PyData.hasDictAll (toDs vs) = false
  | [] => rfl
  | v :: vs => by
    show ((toD v).hasDict || PyData.hasDictAll (toDs vs)) = false
    rw [noDict_D v, noDict_Ds vs]
    rfl
end
theorem int_len {i : Int} (h : i.natAbs < 2 ^ 1900) : ((toString i : String) : Str).length ≤ 1999 := by
  have l := PySem.Flt.log2_lt_of (k := 1900) (by decide) h
  have e : ((toString i : String) : Str).length = (toString i).toList.length := by
    show (cpsOfBytes 0 0 (toString i).toByteArray.data.toList).toArray.size = _
    rw [cpsOfBytes_string, List.size_toArray, List.length_map]
  have hl : ∀ n : Nat, n < 2 ^ 1900 → (Nat.repr n).length ≤ 1900 := fun n h => nat_repr_length_le (by decide) h
  rw [e, String.length_toList]
  cases i with
  | ofNat n =>
    have := hl n h
    show (Nat.repr n).length ≤ 1999
    omega
  | negSucc n =>
    have := hl (n + 1) h
    show ("-" ++ Nat.repr (n + 1)).length ≤ 1999
    rw [String.length_append]
    show 1 + _ ≤ 1999
    omega
mutual
theorem wt_D : ∀ v : Val, strsOk v = true → showI v = true → (toD v).shown.length ≤ wt v
  | .non, _, _ => by decide
  | .bl b, _, _ => by cases b <;> decide
  | .int i, _, h => Nat.le_trans (int_len (of_decide_eq_true h)) (show 1999 ≤ 2000 by decide)
  | .str x, h, _ => by
    have hx : ∀ c ∈ x.cps.toList, c < 16 ^ 8 := fun c hc => by
      have h1 := Array.all_eq_true_iff_forall_mem.mp (show x.cps.all (fun c => decide (c < 1114112)) = true from h) c (Array.mem_toList_iff.mp hc)
      exact Nat.lt_of_lt_of_le (of_decide_eq_true h1) (by decide)
    exact Nat.le_trans (StrLaws.reprText_len x hx) (by show 10 * x.length + 2 ≤ 10 * x.length + 4; omega)
  | .tup vs, h, h' => by
    have h1 := wt_Ds vs h h'
    have h2 := tupleText_len_le (PyData.shownAll (toDs vs))
    show (tupleText (PyData.shownAll (toDs vs))).length ≤ wts vs + 4
    omega
  | .lst vs, h, h' => by
    have h1 := wt_Ds vs h h'
    have h2 := listText_len_le (PyData.shownAll (toDs vs))
    show (listText (PyData.shownAll (toDs vs))).length ≤ wts vs + 4
    omega
  | .scr _, _, _ => (show PyData.none.shown.length ≤ 2000 by decide)
  | .dct _ _, _, _ => (show PyData.none.shown.length ≤ 2000 by decide)
  | .inst _ _ _, _, _ => (show PyData.none.shown.length ≤ 2000 by decide)
  | .exn _ _, _, _ => (show PyData.none.shown.length ≤ 2000 by decide)
  | .ref _, _, _ => (show PyData.none.shown.length ≤ 2000 by decide)
theorem wt_Ds : ∀ vs : List Val, strsOks vs = true → showIs vs = true → ((PyData.shownAll (toDs vs)).map (·.length)).sum + 2 * (PyData.shownAll (toDs vs)).length ≤ wts vs
  | [], _, _ => Nat.le_refl _
  | v :: vs, h, h' => by
    obtain ⟨a, b⟩ := and2 (show (strsOk v && strsOks vs) = true from h)
    obtain ⟨a', b'⟩ := and2 (show (showI v && showIs vs) = true from h')
    have h1 := wt_D v a a'
    have h2 := wt_Ds vs b b'
    show (((toD v).shown :: PyData.shownAll (toDs vs)).map (·.length)).sum + 2 * ((toD v).shown :: PyData.shownAll (toDs vs)).length ≤ wt v + 2 + wts vs
    simp only [List.map_cons, List.sum_cons, List.length_cons]
    omega
end
/-! ### calls of built-in functions -/
/-- which value a built-in stands for -/
def biV : Bi → Value
  | .len => .builtin "len" | .int_ => .type "int" | .abs => .builtin "abs" | .str_ => .type "str" | .repr => .builtin "repr" | .tuple_ => .type "tuple" | .sum => .builtin "sum"
  | .all_ => .builtin "all" | .any_ => .builtin "any" | .max_ => .builtin "max" | .min_ => .builtin "min"
theorem vs1 {v : Val} {xs : List V} (q : RVs W F μ H [v] xs) : ∃ x, xs = [x] ∧ RV W F μ H v x := by
  obtain ⟨x, r, e, h1, h2⟩ := q
  have e2 : r = [] := h2
  subst e2
  exact ⟨x, e, h1⟩
theorem vs2 {v w : Val} {xs : List V} (q : RVs W F μ H [v, w] xs) : ∃ x y, xs = [x, y] ∧ RV W F μ H v x ∧ RV W F μ H w y := by
  obtain ⟨x, r, e, h1, h2⟩ := q
  obtain ⟨y, r2, e2, h3, h4⟩ := h2
  have e3 : r2 = [] := h4
  subst e3 e2
  exact ⟨x, y, e, h1, h3⟩
theorem maxL_spec : ∀ (l : List Int) (m : Int), maxL m l ∈ m :: l ∧ ∀ y ∈ m :: l, y ≤ maxL m l
  | [], m => ⟨List.mem_singleton.mpr rfl, fun y hy => by rw [List.mem_singleton.mp hy]; exact Int.le_refl _⟩
  | x :: r, m => by
    obtain ⟨h1, h2⟩ := maxL_spec r (if x > m then x else m)
    show maxL (if x > m then x else m) r ∈ _ ∧ ∀ y ∈ _, y ≤ maxL (if x > m then x else m) r
    have hm := h2 _ List.mem_cons_self
    refine ⟨?_, fun y hy => ?_⟩
    · rcases List.mem_cons.mp h1 with e | e
      · rw [e]
        split
        · exact List.mem_cons_of_mem _ List.mem_cons_self
        · exact List.mem_cons_self
      · exact List.mem_cons_of_mem _ (List.mem_cons_of_mem _ e)
    · have ha : m ≤ if x > m then x else m := by split <;> omega
      have hb : x ≤ if x > m then x else m := by split <;> omega
      rcases List.mem_cons.mp hy with e | e
      · rw [e]
        exact Int.le_trans ha hm
      · rcases List.mem_cons.mp e with e | e
        · rw [e]
          exact Int.le_trans hb hm
        · exact h2 y (List.mem_cons_of_mem _ e)
theorem minL_spec : ∀ (l : List Int) (m : Int), minL m l ∈ m :: l ∧ ∀ y ∈ m :: l, minL m l ≤ y
  | [], m => ⟨List.mem_singleton.mpr rfl, fun y hy => by rw [List.mem_singleton.mp hy]; exact Int.le_refl _⟩
  | x :: r, m => by
    obtain ⟨h1, h2⟩ := minL_spec r (if x < m then x else m)
    show minL (if x < m then x else m) r ∈ _ ∧ ∀ y ∈ _, minL (if x < m then x else m) r ≤ y
    have hm := h2 _ List.mem_cons_self
    refine ⟨?_, fun y hy => ?_⟩
    · rcases List.mem_cons.mp h1 with e | e
      · rw [e]
        split
        · exact List.mem_cons_of_mem _ List.mem_cons_self
        · exact List.mem_cons_self
      · exact List.mem_cons_of_mem _ (List.mem_cons_of_mem _ e)
    · have ha : (if x < m then x else m) ≤ m := by split <;> omega
      have hb : (if x < m then x else m) ≤ x := by split <;> omega
      rcases List.mem_cons.mp hy with e | e
      · rw [e]
        exact Int.le_trans hm ha
      · rcases List.mem_cons.mp e with e | e
        · rw [e]
          exact Int.le_trans hm hb
        · exact h2 y (List.mem_cons_of_mem _ e)
theorem repr_1 (hK : X.K = W.K) (hg : X.A.guards = some []) (hu : X.A.units + 64 < cLine) : CallR X (.builtin "repr") (rGs W (bicall .repr)) := by
  intro pins s σ H xs us Q I rx hq
  obtain ⟨F, μ, h, vs, u, r, q, e, k⟩ := hq
  match vs, q, e with
  | [], _, e => cases e
  | [_, _], _, e => cases e
  | _ :: _ :: _ :: _, _, e => cases e
  | [v], q, e =>
  obtain ⟨x, rfl, hv⟩ := vs1 q
  obtain ⟨t, e1, e2⟩ := Option.map_eq_some_iff.mp (show (reprOf v).map Val.str = some u from e)
  subst e2
  unfold reprOf at e1
  by_cases hc : (eqOk v && (strsOk v && (showI v && decide (wt v ≤ 10000000)))) = true
  · rw [if_pos hc] at e1
    cases e1
    obtain ⟨c1, c2⟩ := and2 hc
    obtain ⟨c2, c3⟩ := and2 c2
    obtain ⟨c3, c4⟩ := and2 c3
    obtain ⟨d1, d2⟩ := and2 (show (isD v && decide (dep v ≤ 60)) = true from c1)
    have d2' : dep v ≤ 60 := of_decide_eq_true d2
    have c4' : wt v ≤ 10000000 := of_decide_eq_true c4
    have hl : (toD v).shown.length ≤ sizeLine := Nat.le_trans (wt_D v c2 c3) (Nat.le_trans c4' (by rw [sizeLine_eq]; decide))
    have fin : Q (.str (toD v).shown) H := k F H _ r Stp.refl rfl
    obtain ⟨uv, rfl, rv⟩ := vals1 rx
    obtain ⟨as, rd⟩ := Dp.reads I (toD v) x uv (by rw [hK]; exact dp_D v x d1 hv) rv
    have isRef : ∀ a, uv = .ref a → wpAny (model X.prog X.w) X.A (call (.builtin "repr") [uv]) (EP X pins σ Q) X.xe s := fun a e => by
      subst e
      refine repr_of_reads' rd (showable_D v d1 c3) (fun z => by rw [noDict_D v] at z; cases z) hg ?_ (fun _ _ z => z) (fun h' w tk hk => ⟨.str _, H, I.kept hk, ⟨_, rfl⟩, fin⟩) hl
      have := dep_D v
      omega
    cases v with
    | non =>
      cases rd
      exact P.repr_of_none ⟨.str _, H, I.tok _, ⟨_, rfl⟩, fin⟩
    | bl b =>
      cases rd
      exact P.repr_of_bool ⟨.str _, H, I.tok _, ⟨_, rfl⟩, by cases b <;> exact fin⟩
    | int i =>
      cases rd
      have h' : i.natAbs < 2 ^ 1900 := of_decide_eq_true c3
      have l := PySem.Flt.log2_lt_of (k := 1900) (by decide) h'
      exact P.repr_of_int (by omega) ⟨.str _, H, I.tok _, ⟨_, rfl⟩, fin⟩
    | str z =>
      cases rd
      exact P.repr_of_str ⟨.str _, H, I.tok _, ⟨_, rfl⟩, fin⟩ hl
    | tup vs =>
      obtain ⟨a, _, rfl, _⟩ := hv
      exact isRef a rv
    | lst vs =>
      obtain ⟨a, _, rfl, _⟩ := hv
      exact isRef a rv
    | _ => cases d1
  · rw [if_neg hc] at e1
    cases e1
theorem bi_1 (hK : X.K = W.K) (hc : X.calm = true) (b : Bi) {pins : List (Addr × Obj)} {s : Shared} {σ : L2.St} {H : Hp} {x : V} {us : List Value} {Q : VK} (I : Inv X pins σ H s) (rx : Vals [x] us)
    (F : Addr → Prop) (μ : List Addr) (h : Hs) (v u : Val) (r : RSt W F μ H h) (hv : RV W F μ H v x) (e : bi1 b v = some u) (k : ∀ F' H' z, RSt W F' μ H' h → Stp F μ H F' μ H' → RV W F' μ H' u z → Q z H')
    (hb : b ≠ .repr) : wpAny (model X.prog X.w) X.A (call (biV b) us) (EP X pins σ Q) X.xe s := by
  have kk : ∀ {z : V}, RV W F μ H u z → Q z H := fun {z} hz => k F H z r Stp.refl hz
  cases b with
  | len =>
    cases v with
    | tup vs =>
      obtain ⟨a, ys, rfl, t, q1, _, _⟩ := seqT hv
      cases e
      exact call_len pins s σ H _ us Q I rx ⟨_, vs.length, rfl, .inr ⟨ys, by rw [hK]; exact t, RVs.length q1⟩, kk rfl⟩
    | lst vs =>
      obtain ⟨a, ys, rfl, t, q1, _, _⟩ := seqL hv
      cases e
      exact call_len pins s σ H _ us Q I rx ⟨_, vs.length, rfl, .inl ⟨ys, by rw [hK]; exact t, RVs.length q1⟩, kk rfl⟩
    | scr ns =>
      obtain ⟨a, rfl, t⟩ := seqS hv
      cases e
      exact call_len pins s σ H _ us Q I rx ⟨_, ns.length, rfl, .inl ⟨_, by rw [hK]; exact t, by rw [List.length_map]⟩, kk rfl⟩
    | str y =>
      have ex : x = .str y := hv
      subst ex
      have e' : (if y.length ≤ most then some (Val.int y.length) else none) = some u := e
      by_cases hl : y.length ≤ most
      · rw [if_pos hl] at e'
        cases e'
        exact call_len pins s σ H _ us Q I rx ⟨_, y.length, rfl, ⟨most_line hl, rfl⟩, kk rfl⟩
      · rw [if_neg hl] at e'
        cases e'
    | _ => cases e
  | int_ =>
    cases v with
    | int i =>
      have ex : x = .int i := hv
      subst ex
      cases e
      exact call_int1 pins s σ H _ us Q I rx (.inl ⟨i, rfl, kk rfl⟩)
    | bl i =>
      have ex : x = .bl i := hv
      subst ex
      cases e
      exact call_int1 pins s σ H _ us Q I rx (.inr ⟨i, rfl, kk rfl⟩)
    | str y =>
      have ex : x = .str y := hv
      subst ex
      have e' : (if y.length ≤ 640 then (intText? y).map Val.int else none) = some u := e
      by_cases hl : y.length ≤ 640
      · rw [if_pos hl] at e'
        obtain ⟨n, e1, e2⟩ := Option.map_eq_some_iff.mp e'
        subst e2
        exact call_int_str pins s σ H _ us Q I rx ⟨y, n, rfl, e1, hl, kk rfl⟩
      · rw [if_neg hl] at e'
        cases e'
    | _ => cases e
  | abs =>
    cases v with
    | int i =>
      have ex : x = .int i := hv
      subst ex
      cases e
      exact call_abs pins s σ H _ us Q I rx ⟨i, rfl, kk rfl⟩
    | _ => cases e
  | str_ =>
    cases v with
    | int i =>
      have ex : x = .int i := hv
      subst ex
      have e' : (if decide (i.natAbs < 2 ^ 1900) = true then some (Val.str (toString i)) else none) = some u := e
      by_cases hl : i.natAbs < 2 ^ 1900
      · rw [if_pos (decide_eq_true hl)] at e'
        cases e'
        have l := PySem.Flt.log2_lt_of (k := 1900) (by decide) hl
        exact call_str_int pins s σ H _ us Q I rx ⟨i, rfl, by omega, kk rfl⟩
      · rw [decide_eq_false hl] at e'
        cases e'
    | str y =>
      have ex : x = .str y := hv
      subst ex
      cases e
      exact SkE.call_str_str pins s σ H _ us Q I rx ⟨y, rfl, kk rfl⟩
    | _ => cases e
  | repr => exact absurd rfl hb
  | tuple_ =>
    cases v with
    | tup vs =>
      have hv' := hv
      obtain ⟨a, ys, rfl, t, q1, _, _⟩ := seqT hv
      cases e
      exact call_tuple_of pins s σ H _ us Q I rx ⟨a, ys, rfl, .inr ⟨by rw [hK]; exact t, kk hv'⟩⟩
    | lst vs =>
      obtain ⟨a, ys, rfl, t, q1, _, _⟩ := seqL hv
      cases e
      refine call_tuple_of pins s σ H _ us Q I rx ⟨a, ys, rfl, .inl ⟨by rw [hK]; exact t, fun p np => ?_⟩⟩
      obtain ⟨r1, s1, v1⟩ := newT r q1 np
      exact k _ _ _ r1 s1 v1
    | _ => cases e
  | sum =>
    cases v with
    | lst vs =>
      obtain ⟨a, ys, rfl, t, q1, _, _⟩ := seqL hv
      obtain ⟨ns, e1, e2⟩ := Option.map_eq_some_iff.mp (show (intsOf vs).map (fun ns => Val.int ns.sum) = some u from e)
      subst e2
      rw [RVs.ofInts e1 q1] at t
      exact cr_sum hc pins s σ H _ us Q I rx ⟨a, ns, rfl, by rw [hK]; exact t, kk rfl⟩
    | _ => cases e
  | all_ =>
    cases v with
    | lst vs =>
      obtain ⟨a, ys, rfl, t, q1, _, _⟩ := seqL hv
      obtain ⟨ns, e1, e2⟩ := Option.map_eq_some_iff.mp (show (boolsOf vs).map (fun ns => Val.bl (ns.all id)) = some u from e)
      subst e2
      rw [RVs.ofBools e1 q1] at t
      exact cr_all hc pins s σ H _ us Q I rx ⟨a, ns, rfl, by rw [hK]; exact t, kk rfl⟩
    | _ => cases e
  | any_ =>
    cases v with
    | lst vs =>
      obtain ⟨a, ys, rfl, t, q1, _, _⟩ := seqL hv
      obtain ⟨ns, e1, e2⟩ := Option.map_eq_some_iff.mp (show (boolsOf vs).map (fun ns => Val.bl (ns.any id)) = some u from e)
      subst e2
      rw [RVs.ofBools e1 q1] at t
      exact cr_any hc pins s σ H _ us Q I rx ⟨a, ns, rfl, by rw [hK]; exact t, kk rfl⟩
    | _ => cases e
  | max_ =>
    cases v with
    | lst vs =>
      obtain ⟨a, ys, rfl, t, q1, _, _⟩ := seqL hv
      have e' : ((intsOf vs).bind fun ns => match ns with | [] => none | x :: r => some (Val.int (maxL x r))) = some u := e
      cases e1 : intsOf vs with
      | none =>
        rw [e1] at e'
        cases e'
      | some ns =>
        rw [e1] at e'
        cases ns with
        | nil => cases e'
        | cons z zs =>
          have e2 : Val.int (maxL z zs) = u := Option.some.inj e'
          subst e2
          rw [RVs.ofInts e1 q1] at t
          obtain ⟨m1, m2⟩ := maxL_spec zs z
          refine cr_max hc pins s σ H _ us Q I rx ⟨a, z :: zs, rfl, by rw [hK]; exact t, by simp, fun m h1 h2 => ?_⟩
          have em : m = maxL z zs := Int.le_antisymm (m2 m h1) (h2 _ m1)
          rw [em]
          exact kk rfl
    | _ => cases e
  | min_ =>
    cases v with
    | lst vs =>
      obtain ⟨a, ys, rfl, t, q1, _, _⟩ := seqL hv
      have e' : ((intsOf vs).bind fun ns => match ns with | [] => none | x :: r => some (Val.int (minL x r))) = some u := e
      cases e1 : intsOf vs with
      | none =>
        rw [e1] at e'
        cases e'
      | some ns =>
        rw [e1] at e'
        cases ns with
        | nil => cases e'
        | cons z zs =>
          have e2 : Val.int (minL z zs) = u := Option.some.inj e'
          subst e2
          rw [RVs.ofInts e1 q1] at t
          obtain ⟨m1, m2⟩ := minL_spec zs z
          refine cr_min hc pins s σ H _ us Q I rx ⟨a, z :: zs, rfl, by rw [hK]; exact t, by simp, fun m h1 h2 => ?_⟩
          have em : m = minL z zs := Int.le_antisymm (h2 _ m1) (m2 m h1)
          rw [em]
          exact kk rfl
    | _ => cases e
theorem bi_G (hK : X.K = W.K) (hc : X.calm = true) (hg : X.A.guards = some []) (hu : X.A.units + 64 < cLine) (b : Bi) : CallR X (biV b) (rGs W (bicall b)) := by
  by_cases hb : b = .repr
  · subst hb
    exact repr_1 hK hg hu
  intro pins s σ H xs us Q I rx hq
  obtain ⟨F, μ, h, vs, u, r, q, e, k⟩ := hq
  match vs, q, e with
  | [], _, e => cases e
  | [v], q, e =>
    obtain ⟨x, rfl, hv⟩ := vs1 q
    exact bi_1 hK hc b I rx F μ h v u r hv e k hb
  | [v, w], q, e =>
    obtain ⟨x, y, rfl, hv, hw⟩ := vs2 q
    cases b with
    | max_ =>
      cases v with
      | int i =>
        cases w with
        | int j =>
          have ex : x = .int i := hv
          have ey : y = .int j := hw
          subst ex ey
          cases e
          exact call_max2 hc pins s σ H _ us Q I rx ⟨i, j, rfl, k F H _ r Stp.refl rfl⟩
        | _ => cases e
      | _ => cases w <;> cases e
    | min_ =>
      cases v with
      | int i =>
        cases w with
        | int j =>
          have ex : x = .int i := hv
          have ey : y = .int j := hw
          subst ex ey
          cases e
          exact call_min2 hc pins s σ H _ us Q I rx ⟨i, j, rfl, k F H _ r Stp.refl rfl⟩
        | _ => cases e
      | _ => cases w <;> cases e
    | _ => cases e
  | _ :: _ :: _ :: _, _, e => cases e
/-! ### isinstance with a built-in class -/
def tyName : Ty → String
  | .int => "int" | .bool => "bool" | .str => "str" | .tuple => "tuple" | .list => "list" | .own _ => "object"
theorem isi_G {x : V} {v : Val} {t : Ty} {b : Bool} (hv : RV W F μ H v x) (ht : ∀ c, t ≠ .own c) (e : isiOf v t = some b) : ∃ T, TyX W.K H x (.type T) ∧ PySem.W.kitOne W.K (.type T) (.type (tyName t)) = some b := by
  cases v with
  | non =>
    have ex : x = .non := hv
    subst ex
    refine ⟨"NoneType", .base .non, ?_⟩
    cases t <;> first | exact absurd rfl (ht _) | (cases e; exact kit_ty (by decide +kernel)) | cases e
  | bl c =>
    have ex : x = .bl c := hv
    subst ex
    refine ⟨"bool", .base (.bl c), ?_⟩
    cases t <;> first | exact absurd rfl (ht _) | (cases e; exact kit_ty (by decide +kernel)) | cases e
  | int c =>
    have ex : x = .int c := hv
    subst ex
    refine ⟨"int", .base (.int c), ?_⟩
    cases t <;> first | exact absurd rfl (ht _) | (cases e; exact kit_ty (by decide +kernel)) | cases e
  | str c =>
    have ex : x = .str c := hv
    subst ex
    refine ⟨"str", .base (.str c), ?_⟩
    cases t <;> first | exact absurd rfl (ht _) | (cases e; exact kit_ty (by decide +kernel)) | cases e
  | tup vs =>
    obtain ⟨a, ys, rfl, _, _, _, g⟩ := seqT hv
    refine ⟨"tuple", .base (.tup g), ?_⟩
    cases t <;> first | exact absurd rfl (ht _) | (cases e; exact kit_ty (by decide +kernel)) | cases e
  | lst vs =>
    obtain ⟨a, ys, rfl, _, _, _, g⟩ := seqL hv
    refine ⟨"list", .base (.lst g), ?_⟩
    cases t <;> first | exact absurd rfl (ht _) | (cases e; exact kit_ty (by decide +kernel)) | cases e
  | dct ks vs =>
    obtain ⟨a, kvs, rfl, _, g, _, _⟩ := hv
    refine ⟨"dict", .base (.dK g), ?_⟩
    cases t <;> first | exact absurd rfl (ht _) | (cases e; exact kit_ty (by decide +kernel)) | cases e
  | inst c ns vs => cases t <;> first | exact absurd rfl (ht _) | cases e
  | _ => cases t <;> cases e
end
end Pyi
set_option Elab.async false
set_option linter.all false
set_option maxRecDepth 100000
set_option maxHeartbeats 1000000
/-! The promise of a def where it is known besides that nothing is being shown around it (repr wants it). -/
namespace Pyi
open PySem PySem.Spec PyProof.Rows L2

structure Rm (n : Nat) (A : Around) : Prop where
  rm : Room n A
  gd : A.guards = some []
theorem Rm.mono {m n : Nat} {A : Around} (r : Rm n A) (h : m ≤ n) : Rm m A := ⟨r.rm.mono h, r.gd⟩
theorem Rm.deeper {n : Nat} {A : Around} (r : Rm (n + 1) A) (env : PySem.Env) : Rm n (A.deeper env) := ⟨r.rm.deeper env, r.gd⟩

structure Fok (P : Program) (w : World) (K : PySem.W.Frag) (mg : Str → Option Value) (base : Heap) (n : Nat) (f : Addr) (fd : FuncData) (ps : List Str) (sp : Sp) : Prop where
  len : ∀ vs H Q E, sp vs H Q E → vs.length = ps.length
  run : ∀ A out s H args us vs Q E, Rm n A → Env0 P w K mg base A out s H → BindsTo s fd args (ps.zip us) → Vals vs us → sp vs H Q E →
    codeAny (model P w) A (.call (.ref f) args) (CR (L2.CX P w) out P w H s Q E) s
section
variable {P : Program} {w : World} {K : PySem.W.Frag} {mg : Str → Option Value} {base : Heap} {n : Nat} {f : Addr} {fd : FuncData} {ps : List Str} {sp : Sp}
theorem Fok.mono {m : Nat} (F : Fok P w K mg base m f fd ps sp) (h : m ≤ n) : Fok P w K mg base n f fd ps sp :=
  ⟨F.len, fun A out s H args us vs Q E r => F.run A out s H args us vs Q E (r.mono h)⟩
/-- a def of the text by its body -/
theorem Fok.of {name qual : Str} {params : Arguments} {body : List Stmt} {scope : Scope} {dvs : List V} {kws : List (Str × V)} {N : List Str} (D : FunD K name qual params body scope dvs kws f fd) (S : FnScope N ps scope)
    (len : ∀ vs H Q E, sp vs H Q E → vs.length = ps.length)
    (hb : ∀ (cd : Value) (A : Around) (out : List PySem.Env) (s : Shared) (H : Hp) (vs : List V) (Q : VK) (E : XK), Rm n (A.deeper (envOfC qual scope s.heap.objs.size f cd)) → sp vs H Q E →
      ∃ t, PSs (cxOf (L2.CX P w) P w K mg base N qual scope f cd A out s H E) body t ∧ t { nx := fun _ H' => Q .non H', rt := Q } (start N vs) H) : Fok P w K mg base (n + 1) f fd ps sp := by
  obtain ⟨oc, od, dV, kV, doc, pm, an, cd, ct, osl, efd, lk, hcd, _, _⟩ := D.ex
  subst efd
  constructor
  · exact len
  intro A out s H args us vs Q E hr e0 bd r q
  have hl := len _ _ _ _ q
  have old : ∀ b o, base.get? b = some o → s.heap.get? b = some o := fun b o e => (e0.bs b o e).1
  have KX : K.In s.heap := e0.mod.kin.keeps old
  have lim := e0.mod.nolimit.keeps old
  have kinds : ∀ y ∈ ps.zip us, scope.names.lookup y.1 = some .local ∨
      (scope.names.lookup y.1 = some .cell ∧ ((cellsFrom (s.heap.objs.size + 1) scope.names []).lookup y.1).isSome = true) := by
    intro y hy
    obtain ⟨x, v⟩ := y
    cases S.par x (List.of_mem_zip hy).1 with
    | inl q => exact .inl q
    | inr q => exact .inr ⟨q, PySem.W.cellsFrom_some _ _ _ (.inl q)⟩
  apply codeAny_call_function hr.rm.depth (KX _ _ lk) rfl S.co S.gen rfl (PySem.W.codeRec_of KX hcd)
  apply bd
  apply wpAny_newFunctionEnv_cells S.kind kinds
  intro env he s1 x
  subst he
  refine ⟨lim.keeps x.toInCall.keep, ?_⟩
  apply codeAny_func
  obtain ⟨t, ht, hq⟩ := hb cd A out s H vs Q E (hr.deeper _) q
  have I := inv_start (CX := L2.CX P w) (E := E) S hr.rm.hd e0 hl r x
  refine wpAny_mono (ht.run [] s1 (start N vs) H _ I hq) ?_ (fun _ _ z => z)
  intro fl s' hs
  have fin : ∀ {σ' : L2.St} {H' : Hp} {v : V} {u : Value}, Inv (cxOf (L2.CX P w) P w K mg base N qual scope f cd A out s H E) [] σ' H' s' →
      RelV v u → Q v H' → CE out P w H s Q u s' := by
    intro σ' H' v u J rv q
    exact ⟨v, H', J.os, J.bare, J.base, J.hok, rv, q⟩
  cases fl with
  | ret u =>
    obtain ⟨v, σ', H', J, rv, q⟩ := hs
    exact fin J rv q
  | next =>
    obtain ⟨σ', H', J, q⟩ := hs
    exact fin (v := .non) (u := .none) J rfl q
  | brk =>
    obtain ⟨_, _, _, q⟩ := hs
    cases q
  | cont =>
    obtain ⟨_, _, _, q⟩ := hs
    cases q
end
section
variable {X : Cx} {n : Nat} {f : Addr} {fd : FuncData} {ps : List Str} {sp : Sp} {dvs : List V} {ds : List Value} {E : XK} {Z : WX} {x : Str} {p pos : Pos} {e : Expr} {es : List Expr} {t : TA}
/-- the callee runs -/
theorem fok_run (F : Fok X.prog X.w X.K X.mg X.base n f fd ps sp) (hr : Rm n X.A) (hb : Binds X.K fd ps ds) (hd : Vals dvs ds) (tk : Takes X Z)
    {pins : List (Addr × Obj)} {σ : L2.St} {H : Hp} {s : Shared} {Q : VK} {us : List Value} {vs : List V} (I : Inv X pins σ H s) (r : Vals vs us) (q : sp (vs ++ dvs) H Q (fun c d H => Z c d σ H)) :
    wpAny (model X.prog X.w) X.A (call (.ref f) us) (EP X pins σ Q) X.xe s := by
  have r2 := Vals.append r hd
  have hl : (us ++ ds).length = ps.length := r2.length.symm.trans (F.len _ _ _ _ q)
  apply wpAny_call
  refine codeAny_mono (F.run X.A X.stack s H ⟨us, []⟩ (us ++ ds) (vs ++ dvs) Q _ hr I.env0 (hb s us I.kIn hl) r2 q) ?_
  intro res s' h
  match res, h with
  | .error e, h =>
    exact tk e s' (XE.of_call (W := Z) I (fun c d H' z => z) h)
  | .ok (.ret u), h => exact I.after h
/-- f(e, ..) -/
theorem fok_call (F : Fok X.prog X.w X.K X.mg X.base n f fd ps sp) (hr : Rm n X.A) (hg : Gl X x) (hm : X.mg x = some (.ref f)) (hk : PySem.W.keepIn X.K (.ref f) = true) (hb : Binds X.K fd ps ds) (hd : Vals dvs ds) (tk : Takes X Z)
    (ha : PA X (e :: es) t) (hdb : (x == ("__debug__" : Str)) = false) (he : starEach (e :: es) X.env = (false, eval e X.env) :: starEach es X.env) (hpl : (backTo pos (starEach es X.env)).any (·.1) = false) :
    PE X (.Call (.Name x p) (e :: es) [] pos) (fun σ H Q => t σ H fun vs H1 => sp (vs ++ dvs) H1 Q (fun c d H => Z c d σ H)) := by
  constructor
  intro pins s σ H Q I h
  apply wpAny_Call_Name_kw
  refine ld_glob I hg hm ?_ hdb
  refine PySem.W.callWith_K (h₀ := X.base) I.ok.mod.kin hk (thn (ha.run pos pins s σ H _ I h) ?_) he hpl
  intro us s1 ⟨vs, H1, I1, r, q⟩
  exact ⟨I1.kIn, fok_run F hr hb hd tk I1 r q⟩
theorem fok_call0 (F : Fok X.prog X.w X.K X.mg X.base n f fd ps sp) (hr : Rm n X.A) (hg : Gl X x) (hm : X.mg x = some (.ref f)) (hk : PySem.W.keepIn X.K (.ref f) = true) (hb : Binds X.K fd ps ds) (hd : Vals dvs ds) (tk : Takes X Z)
    (hdb : (x == ("__debug__" : Str)) = false) : PE X (.Call (.Name x p) [] [] pos) (fun σ H Q => sp dvs H Q (fun c d H => Z c d σ H)) := by
  constructor
  intro pins s σ H Q I h
  apply wpAny_Call_Name_kw
  refine ld_glob I hg hm ?_ hdb
  exact PySem.W.callWith_K0 I.kIn hk (fok_run (us := []) F hr hb hd tk I .nil h)
end
/-! ### the law's end -/
theorem rm_caller {n : Nat} (h : Room n callerA) : Rm n callerA := ⟨h, rfl⟩
end Pyi
set_option Elab.async false
set_option linter.all false
set_option maxRecDepth 100000
set_option maxHeartbeats 1000000
/-! Targets, walks, list comprehensions. -/
namespace Pyi
open PySem PySem.Spec PyProof.Rows L2

section
variable {W : Wd} {X : Cx} {Z : WX} {F F' : Addr → Prop} {μ μ' : List Addr} {H H' : Hp} {h h' : Hs} {env : Env} {σ : L2.St}
/-! ### an object that nobody holds changes -/
theorem Mon.out {p : Addr} {o : HO} (nf : ¬ F p) : Mon F μ H F μ (upd H p o) := ⟨fun _ z => z, fun _ _ z => z, fun a f => upd_ne (show a ≠ p from fun z => nf (z ▸ f))⟩
theorem Mon.grow {p : Addr} : Mon F μ H (fun a => F a ∨ a = p) μ H := ⟨fun _ z => .inl z, fun _ _ z => z, fun _ _ => rfl⟩
theorem Mon.more {r : List Addr} : Mon F μ H F (μ ++ r) H := ⟨fun _ z => z, fun n x z => by
  rw [List.getElem?_append_left (List.getElem?_eq_some_iff.mp z).1]
  exact z, fun _ _ => rfl⟩
theorem RV.out {p : Addr} {o : HO} (nf : ¬ F p) (v : Val) (x : V) (q : RV W F μ H v x) : RV W F μ (upd H p o) v x := RV.mon (Mon.out nf) v x q
theorem RVs.out {p : Addr} {o : HO} (nf : ¬ F p) (v : List Val) (x : List V) (q : RVs W F μ H v x) : RVs W F μ (upd H p o) v x := RVs.mon (Mon.out nf) v x q
theorem RV.grow {p : Addr} (v : Val) (x : V) (q : RV W F μ H v x) : RV W (fun a => F a ∨ a = p) μ H v x := RV.mon Mon.grow v x q
theorem RVs.grow {p : Addr} (v : List Val) (x : List V) (q : RVs W F μ H v x) : RVs W (fun a => F a ∨ a = p) μ H v x := RVs.mon Mon.grow v x q
theorem RObj.mon (s : Mon F μ H F' μ' H') {o : MObj} {a : Addr} (e : H' a = H a) (r : RObj W F μ H o a) : RObj W F' μ' H' o a := by
  cases o with
  | lst vs =>
    obtain ⟨xs, g, q⟩ := r
    exact ⟨xs, e.trans g, RVs.mon s vs xs q⟩
  | ins c ns vs =>
    obtain ⟨dx, fs, g, n, q⟩ := r
    exact ⟨dx, fs, e.trans g, n, RVs.mon s vs _ q⟩
theorem RSt.out {p : Addr} {o : HO} (r : RSt W F μ H h) (nf : ¬ F p) (nm : p ∉ μ) : RSt W F μ (upd H p o) h where
  len := r.len
  nd := r.nd
  ob := fun n ob a h1 h2 => by
    have hm : a ∈ μ := List.mem_of_getElem? h2
    have ne : a ≠ p := fun z => nm (z ▸ hm)
    have q := r.ob n ob a h1 h2
    cases ob with
    | lst vs =>
      obtain ⟨xs, g, q⟩ := q
      exact ⟨xs, (upd_ne ne).trans g, RVs.out nf vs xs q⟩
    | ins c ns vs =>
      obtain ⟨dx, fs, g, n, q⟩ := q
      exact ⟨dx, fs, (upd_ne ne).trans g, n, RVs.out nf vs _ q⟩
  nf := r.nf
  lm := fun a hm => by
    rw [upd_ne (show a ≠ p from fun z => nm (z ▸ hm))]
    exact r.lm a hm
  lf := fun a f => by
    rw [upd_ne (show a ≠ p from fun z => nf (z ▸ f))]
    exact r.lf a f
theorem RSlot.out {p : Addr} {o : HO} {s : Slot} {x : V} (r : RSlot W F μ H s x) (nf : ¬ F p) (np : isOwn s = true → x ≠ .ref p) (nd : ∀ b, H p ≠ some (.own b)) : RSlot W F μ (upd H p o) s x := by
  cases s with
  | v v => exact RV.out nf v x r
  | own vs =>
    obtain ⟨a, xs, e, g, q, f, m⟩ := r
    exact ⟨a, xs, e, (upd_ne (show a ≠ p from fun z => np rfl (by rw [e, z]))).trans g, RVs.out nf vs xs q, f, m⟩
  | ownD ks vs =>
    obtain ⟨a, kvs, e, g, f, m, k, q⟩ := r
    exact ⟨a, kvs, e, (upd_ne (show a ≠ p from fun z => np rfl (by rw [e, z]))).trans g, f, m, k, RVs.out nf vs _ q⟩
  | ownI c ns vs =>
    obtain ⟨a, dx, fs, e, g, gd, n, q, f, m, md, fl⟩ := r
    exact ⟨a, dx, fs, e, (upd_ne (show a ≠ p from fun z => np rfl (by rw [e, z]))).trans g, (upd_ne (show dx ≠ p from fun z => nd a (z ▸ gd))).trans gd, n, RVs.out nf vs _ q, f, m, md, fl⟩
theorem REnv.out {p : Addr} {o : HO} (r : REnv W F μ H env σ) (nf : ¬ F p) (no : ¬ Own env σ p) (nd : ∀ b, H p ≠ some (.own b)) : REnv W F μ (upd H p o) env σ where
  len := r.len
  sl := fun i s e => by
    obtain ⟨x, e1, q⟩ := r.sl i s e
    refine ⟨x, e1, q.out nf (fun ho z => no ⟨i, s, e, ho, ?_⟩) nd⟩
    rw [e1, z]
  sep := r.sep
theorem REnv.own_live (r : REnv W F μ H env σ) {a : Addr} (o : Own env σ a) : H a ≠ none ∧ ¬ F a ∧ a ∉ μ := by
  obtain ⟨i, s, e, ho, es⟩ := o
  obtain ⟨x, e1, q⟩ := r.sl i s e
  obtain ⟨b, ex, l, f, m⟩ := q.own_at ho
  rw [es] at e1
  cases e1
  cases ex
  exact ⟨l, f, m⟩
/-- a later state whose fresh object is written again -/
theorem Stp.again {p : Addr} {o : HO} (r : RSt W F μ H h) (s : Stp F μ H F' μ' H') (n : H p = none) (nf : ¬ F' p) (l : H' p ≠ none) : Stp F μ H F' μ' (upd H' p o) where
  f := s.f
  m := s.m
  fz := fun a f => (upd_ne (show a ≠ p from fun z => r.lf a f (z ▸ n))).trans (s.fz a f)
  keep := fun b u e m => (upd_ne (ne_of_none e n)).trans (s.keep b u e m)
  fn := s.fn
  mn := s.mn
  lv := fun a e => by
    by_cases z : a = p
    · rw [z, upd_same]; exact fun q => by cases q
    · rw [upd_ne z]; exact s.lv a e
/-- a fresh object is frozen -/
theorem Stp.freeze {p : Addr} (s : Stp F μ H F' μ' H') (n : H p = none) : Stp F μ H (fun a => F' a ∨ a = p) μ' H' where
  f := fun a f => .inl (s.f a f)
  m := s.m
  fz := s.fz
  keep := s.keep
  fn := fun a f => by
    rcases f with f | f
    · exact s.fn a f
    · rw [f]; exact .inr (.inl n)
  mn := s.mn
  lv := s.lv
theorem RSt.grow {p : Addr} (r : RSt W F μ H h) (l : H p ≠ none) (nm : p ∉ μ) : RSt W (fun a => F a ∨ a = p) μ H h where
  len := r.len
  nd := r.nd
  ob := fun n ob a h1 h2 => by
    have q := r.ob n ob a h1 h2
    cases ob with
    | lst vs =>
      obtain ⟨xs, g, q⟩ := q
      exact ⟨xs, g, RVs.grow vs xs q⟩
    | ins c ns vs =>
      obtain ⟨dx, fs, g, n, q⟩ := q
      exact ⟨dx, fs, g, n, RVs.grow vs _ q⟩
  nf := fun a hm f => by
    rcases f with f | f
    · exact r.nf a hm f
    · exact nm (f ▸ hm)
  lm := r.lm
  lf := fun a f => by
    rcases f with f | f
    · exact r.lf a f
    · rw [f]; exact l
/-- a list just made becomes one that nobody changes -/
theorem rd_freeze {m : Ev (List Val)} {σ : L2.St} {H : Hp} {Q : VK} (q : RD W Z (fun env h => (m env h).bind fun vs h => .ok (.lst vs) h) σ H Q) : RDf W Z m σ H Q := by
  obtain ⟨F, μ, env, h, r, e, a⟩ := q
  refine rd_step r e a fun vs h' F' μ' H' x r1 e1 s1 v1 a1 => ?_
  obtain ⟨p, xs, rfl, n, nf, nm, g, rv⟩ := v1
  exact a1 (fun a => F' a ∨ a = p) μ' H' (.ref p) (r1.grow (by rw [g]; exact fun z => by cases z) nm) (s1.freeze n) ⟨p, xs, rfl, .inr rfl, g, RVs.grow vs xs rv⟩
/-- .. or one that changes -/
theorem rd_mk {m : Ev (List Val)} {σ : L2.St} {H : Hp} {Q : VK} (q : RD W Z (fun env h => (m env h).bind fun vs h => .ok (.ref h.length) (h ++ [.lst vs])) σ H Q) : RDf W Z m σ H Q := by
  obtain ⟨F, μ, env, h, r, e, a⟩ := q
  refine rd_step r e a fun vs h' F' μ' H' x r1 e1 s1 v1 a1 => ?_
  obtain ⟨p, xs, rfl, n, nf, nm, g, rv⟩ := v1
  have sg : Stp F μ H F' (μ' ++ [p]) H' := {
    f := s1.f
    m := by
      obtain ⟨t, et⟩ := s1.m
      exact ⟨t ++ [p], by rw [et, List.append_assoc]⟩
    fz := s1.fz
    keep := s1.keep
    fn := fun a f => by
      rcases s1.fn a f with z | z | ⟨⟨ys, z, im⟩, y⟩
      · exact .inl z
      · exact .inr (.inl z)
      · refine .inr (.inr ⟨⟨ys, z, im⟩, fun hm => ?_⟩)
        rcases List.mem_append.mp hm with t | t
        · exact y t
        · rw [List.mem_singleton.mp t, n] at z
          cases z
    mn := fun b hb => by
      rcases List.mem_append.mp hb with z | z
      · exact s1.mn b z
      · rw [List.mem_singleton.mp z]; exact .inr n
    lv := s1.lv }
  have rg : RSt W F' (μ' ++ [p]) H' (h' ++ [.lst vs]) := {
    len := by rw [List.length_append, List.length_append, r1.len]; rfl
    nd := List.nodup_append.mpr ⟨r1.nd, by simp, fun a ha b hb => by
      rw [List.mem_singleton.mp hb]
      exact fun z => nm (z ▸ ha)⟩
    ob := fun k o a h1 h2 => by
      by_cases hk : k < h'.length
      · rw [List.getElem?_append_left hk] at h1
        rw [List.getElem?_append_left (by rw [r1.len]; exact hk)] at h2
        exact RObj.mon Mon.more rfl (r1.ob k o a h1 h2)
      · rw [List.getElem?_append_right (by omega)] at h1
        rw [List.getElem?_append_right (by rw [r1.len]; omega), r1.len] at h2
        cases hd : k - h'.length with
        | zero =>
          rw [hd] at h1 h2
          cases h1
          cases h2
          exact ⟨xs, g, RVs.mon Mon.more vs xs rv⟩
        | succ m =>
          rw [hd] at h1
          cases h1
    nf := fun a ha => by
      rcases List.mem_append.mp ha with z | z
      · exact r1.nf a z
      · rw [List.mem_singleton.mp z]; exact nf
    lm := fun a ha => by
      rcases List.mem_append.mp ha with z | z
      · exact r1.lm a z
      · rw [List.mem_singleton.mp z, g]; exact fun q => by cases q
    lf := r1.lf }
  refine a1 F' (μ' ++ [p]) H' (.ref p) rg sg ⟨p, ?_, rfl⟩
  rw [List.getElem?_append_right (by rw [r1.len]; exact Nat.le_refl _), r1.len, Nat.sub_self]
  rfl

/-! ### targets -/
/-- what a target is given -/
def gG (W : Wd) (tg : Tg) : TG := fun x σ H Q => ∃ F μ env h w env', RSt W F μ H h ∧ REnv W F μ H env σ ∧ RV W F μ H w x ∧ bindT tg w env = some env' ∧
  ∀ σ', REnv W F μ H env' σ' → (∀ j, j ∉ tg.slots → σ'[j]? = σ[j]?) → σ'.length = σ.length → (∀ a, Own env' σ' a → Own env σ a) → Q σ' H
def gGs (W : Wd) (ts : List Tg) : TGs := fun xs σ H Q => ∃ F μ env h ws env', RSt W F μ H h ∧ REnv W F μ H env σ ∧ RVs W F μ H ws xs ∧ bindTs ts ws env = some env' ∧
  ∀ σ', REnv W F μ H env' σ' → (∀ j, j ∉ Tg.slotss ts → σ'[j]? = σ[j]?) → σ'.length = σ.length → (∀ a, Own env' σ' a → Own env σ a) → Q σ' H
theorem getSet {α : Type} {l : List α} {i j : Nat} {x y : α} (e : (l.set i x)[j]? = some y) : (i = j ∧ y = x) ∨ (i ≠ j ∧ l[j]? = some y) := by
  by_cases h : i = j
  · subst h
    have hl : i < l.length := by
      have := (List.getElem?_eq_some_iff.mp e).1
      rw [List.length_set] at this
      exact this
    rw [List.getElem?_set_self hl] at e
    exact .inl ⟨rfl, (Option.some.inj e).symm⟩
  · rw [List.getElem?_set_ne h] at e
    exact .inr ⟨h, e⟩
/-- a slot that is not held alone is stored -/
theorem own_set {i : Nat} {s : Slot} {x : V} (hs : isOwn s = false) {a : Addr} {j : Nat} (o : OwnAt (env.set i (some s)) (σ.set i (some x)) j a) : i ≠ j ∧ OwnAt env σ j a := by
  obtain ⟨t, e1, e2, e3⟩ := o
  rcases getSet e1 with ⟨_, z⟩ | ⟨hn, z⟩
  · cases z
    rw [hs] at e2
    cases e2
  · rcases getSet e3 with ⟨w, _⟩ | ⟨_, w⟩
    · exact absurd w hn
    · exact ⟨hn, t, z, e2, w⟩
theorem REnv.set (r : REnv W F μ H env σ) {i : Nat} {v : Val} {x : V} (hv : RV W F μ H v x) : REnv W F μ H (env.set i (some (.v v))) (σ.set i (some x)) where
  len := by rw [List.length_set, List.length_set]; exact r.len
  sl := fun j s e => by
    rcases getSet e with ⟨rfl, z⟩ | ⟨hn, z⟩
    · cases z
      have hl : i < σ.length := by
        have := (List.getElem?_eq_some_iff.mp e).1
        rw [List.length_set, r.len] at this
        exact this
      exact ⟨x, List.getElem?_set_self hl, hv⟩
    · obtain ⟨y, e1, q⟩ := r.sl j s z
      exact ⟨y, by rw [List.getElem?_set_ne hn]; exact e1, q⟩
  sep := fun j k a h1 h2 => r.sep j k a (own_set rfl h1).2 (own_set rfl h2).2
theorem REnv.own_set (r : REnv W F μ H env σ) {i : Nat} {v : Val} {x : V} {a : Addr} (o : Own (env.set i (some (.v v))) (σ.set i (some x)) a) : Own env σ a := by
  obtain ⟨j, q⟩ := o
  exact ⟨j, (Pyi.own_set rfl q).2⟩
theorem pg_v {i : Nat} {x : Str} {pos : Pos} (hN : X.N.Nodup) (hi : X.N[i]? = some x) (hx : Loc X.env.scope x) (hf : X.fn x = true ∨ X.env.scope.names.lookup x = some .local) : PG X (.Name x pos) (gG W (.v i)) := by
  constructor
  intro pins s σ H x u Q I ru q
  obtain ⟨F, μ, env, h, w, env', r, e, hv, hb, k⟩ := q
  cases hb
  exact (pg_name (i := i) hN hi hx hf).run pins s σ H x u Q I ru (k _ (e.set hv) (fun j hj => List.getElem?_set_ne (fun z => hj (List.mem_singleton.mpr z.symm))) (List.length_set ..) fun a o => e.own_set o)
theorem pg_t {es : List Expr} {ts : List Tg} {k : Nat} {pos : Pos} (hc : X.calm = true) (hK : X.K = W.K) (h : PGs X es (gGs W ts)) (hn : (assignEach es X.env).length = ts.length) (hi : (assignEach es X.env).findIdx? (·.1) = none) : PG X (.Tuple es k pos) (gG W (.t ts)) := by
  constructor
  intro pins s σ H x u Q I ru q
  obtain ⟨F, μ, env, h', w, env', r, e, hv, hb, k'⟩ := q
  cases w with
  | tup vs =>
    obtain ⟨a, xs, rfl, t, q1, _, _⟩ := seqT hv
    have hb' : bindTs ts vs env = some env' := hb
    have hl : ∀ (ts : List Tg) (vs : List Val) (e e' : Env), bindTs ts vs e = some e' → ts.length = vs.length := by
      intro ts
      induction ts with
      | nil =>
        intro vs e e' hb
        cases vs with
        | nil => rfl
        | cons _ _ => cases hb
      | cons t ts ih =>
        intro vs e e' hb
        cases vs with
        | nil => cases hb
        | cons v vs =>
          obtain ⟨e1, _, h2⟩ := Option.bind_eq_some_iff.mp (show (bindT t v e).bind (fun e => bindTs ts vs e) = some e' from hb)
          rw [List.length_cons, List.length_cons, ih vs e1 e' h2]
    exact (pg_tup (n := ts.length) hc h hn hi).run pins s σ H _ u Q I ru ⟨a, xs, rfl, by rw [hK]; exact t, by rw [← RVs.length q1, hl ts vs env env' hb'], F, μ, env, h', vs, env', r, e, q1, hb', k'⟩
  | _ => cases hb
theorem pgs_0 : PGs X [] (gGs W []) := by
  constructor
  intro pins s σ H xs us Q I ru q
  obtain ⟨F, μ, env, h, ws, env', r, e, hv, hb, k⟩ := q
  cases ws with
  | nil =>
    have ex : xs = [] := hv
    subst ex
    cases hb
    exact pgs_nil.run pins s σ H [] us Q I ru ⟨rfl, k σ e (fun _ _ => rfl) rfl fun _ o => o⟩
  | cons _ _ => cases hb
theorem pgs_1 {e : Expr} {es : List Expr} {t : Tg} {ts : List Tg} (h1 : PG X e (gG W t)) (h2 : PGs X es (gGs W ts)) (hs : (assignEach (e :: es) X.env).map (·.2) = assign e X.env :: (assignEach es X.env).map (·.2)) :
    PGs X (e :: es) (gGs W (t :: ts)) := by
  constructor
  intro pins s σ H xs us Q I ru q
  obtain ⟨F, μ, env, h, ws, env', r, e, hv, hb, k⟩ := q
  cases ws with
  | nil => cases hb
  | cons w ws =>
    obtain ⟨x, xr, rfl, hv1, hv2⟩ := hv
    obtain ⟨env1, hb1, hb2⟩ := Option.bind_eq_some_iff.mp (show (bindT t w env).bind (fun e => bindTs ts ws e) = some env' from hb)
    refine (pgs_cons h1 h2 hs).run pins s σ H _ us Q I ru ⟨x, xr, rfl, F, μ, env, h, w, env1, r, e, hv1, hb1, fun σ1 e1 n1 l1 o1 => ?_⟩
    refine ⟨F, μ, env1, h, ws, env', r, e1, hv2, hb2, fun σ2 e2 n2 l2 o2 => ?_⟩
    refine k σ2 e2 (fun j hj => ?_) (l2.trans l1) fun a o => o1 a (o2 a o)
    have hj' : j ∉ t.slots ++ Tg.slotss ts := hj
    rw [n2 j (fun z => hj' (List.mem_append_right _ z)), n1 j fun z => hj' (List.mem_append_left _ z)]

/-! ### walks -/
/-- the iterator yields these values, from any later state -/
def WalkOk (W : Wd) (F : Addr → Prop) (μ : List Addr) (H : Hp) (xs : List Val) (J : L2.It) : Prop := ∀ F' μ' H' h', RSt W F' μ' H' h' → Mon F μ H F' μ' H' →
  (∀ i v, xs[i]? = some v → J.go i H' ∧ ∀ y H2, J.yld i H' y H2 → ∃ F2, RSt W F2 μ' H2 h' ∧ Stp F' μ' H' F2 μ' H2 ∧ RV W F2 μ' H2 v y) ∧ J.stop xs.length H'
abbrev RDi (W : Wd) (Z : WX) (m : Ev (List Val)) : TI := RDg W Z (fun _ F μ H xs J => WalkOk W F μ H xs J) m
theorem walk_seq {v : Val} {x : V} {xs : List Val} (hv : RV W F μ H v x) (e : itemsOf v = some xs) : ∃ a, x = .ref a ∧
    ((∃ ys, SqL W.K H a ys) ∧ WalkOk W F μ H xs (Itl W.K a) ∨ (∃ ys, SqT W.K H a ys) ∧ WalkOk W F μ H xs (Itt W.K a)) := by
  cases v with
  | tup vs =>
    obtain ⟨a, ys, rfl, t, q, f, g⟩ := seqT hv
    cases e
    refine ⟨a, rfl, .inr ⟨⟨ys, t⟩, fun F' μ' H' h' r m => ?_⟩⟩
    have t' : SqT W.K H' a ys := .inl (.inl ((m.fz a f).trans g))
    have q' := RVs.mon m _ _ q
    refine ⟨fun i v hi => ?_, ys, t', by rw [RVs.length q]; exact Nat.le_refl _⟩
    obtain ⟨y, hy, ry⟩ := RVs.get q' hi
    refine ⟨⟨ys, y, t', hy⟩, fun z H2 hz => ?_⟩
    obtain ⟨rfl, hz⟩ := hz
    have ez := hz ys t'
    rw [hy] at ez
    cases ez
    exact ⟨F', r, Stp.refl, ry⟩
  | lst vs =>
    obtain ⟨a, ys, rfl, t, q, f, g⟩ := seqL hv
    cases e
    refine ⟨a, rfl, .inl ⟨⟨ys, t⟩, fun F' μ' H' h' r m => ?_⟩⟩
    have t' : SqL W.K H' a ys := .inl (.inl ((m.fz a f).trans g))
    have q' := RVs.mon m _ _ q
    refine ⟨fun i v hi => ?_, ys, t', by rw [RVs.length q]; exact Nat.le_refl _⟩
    obtain ⟨y, hy, ry⟩ := RVs.get q' hi
    refine ⟨⟨ys, y, t', hy⟩, fun z H2 hz => ?_⟩
    obtain ⟨rfl, hz⟩ := hz
    have ez := hz ys t'
    rw [hy] at ez
    cases ez
    exact ⟨F', r, Stp.refl, ry⟩
  | _ => cases e
/-- the signs of a text -/
theorem walk_str (z : Str) : WalkOk W F μ H (signsOf z) (Its z) := by
  intro F' μ' H' h' r m
  have hl : z.cps.toList.length = z.cps.size := Array.length_toList
  refine ⟨fun i v hi => ?_, by show z.cps.size ≤ (z.cps.toList.map _).length; rw [List.length_map, hl]; exact Nat.le_refl _⟩
  unfold signsOf at hi
  rw [List.getElem?_map] at hi
  obtain ⟨c, hc, ev⟩ := Option.map_eq_some_iff.mp hi
  subst ev
  rw [Array.getElem?_toList] at hc
  refine ⟨(Array.getElem?_eq_some_iff.mp hc).1, fun y H2 hy => ?_⟩
  obtain ⟨rfl, c2, hc2, rfl⟩ := hy
  rw [hc] at hc2
  cases hc2
  exact ⟨F', r, Stp.refl, rfl⟩
theorem rngV_get : ∀ (n : Nat) (lo : Int) (i : Nat) (v : Val), (rngV lo n)[i]? = some v → i < n ∧ v = .int (lo + i)
  | 0, _, _, _, e => by cases e
  | n + 1, lo, 0, v, e => by
    cases e
    exact ⟨Nat.succ_pos _, by simp⟩
  | n + 1, lo, i + 1, v, e => by
    obtain ⟨h1, h2⟩ := rngV_get n (lo + 1) i v e
    refine ⟨Nat.succ_lt_succ h1, ?_⟩
    rw [h2]
    congr 1
    omega
theorem rngV_len : ∀ (n : Nat) (lo : Int), (rngV lo n).length = n
  | 0, _ => rfl
  | n + 1, lo => by
    show (rngV (lo + 1) n).length + 1 = n + 1
    rw [rngV_len n (lo + 1)]
theorem walk_rng (lo : Int) (n : Nat) : WalkOk W F μ H (rngV lo n) (Itr lo n) := by
  intro F' μ' H' h' r m
  refine ⟨fun i v hi => ?_, by rw [rngV_len]; exact Nat.le_refl _⟩
  obtain ⟨h1, h2⟩ := rngV_get n lo i v hi
  refine ⟨h1, fun y H2 hy => ?_⟩
  obtain ⟨rfl, hy⟩ := hy
  subst h2
  exact ⟨F', r, Stp.refl, hy⟩
end
end Pyi
set_option Elab.async false
set_option linter.all false
set_option maxRecDepth 100000
set_option maxHeartbeats 1000000
/-! List comprehensions. -/
namespace Pyi
open PySem PySem.Spec PyProof.Rows L2

/-- no exception is wished for -/
abbrev Z0 : WX := fun _ _ _ _ => False
section
variable {W : Wd} {X : Cx} {Z : WX} {F F' : Addr → Prop} {μ μ' : List Addr} {H H' : Hp} {h h' : Hs} {env : Env} {σ : L2.St}
theorem own_none {i : Nat} {a : Addr} {j : Nat} (o : OwnAt (env.set i none) (σ.set i none) j a) : OwnAt env σ j a := by
  obtain ⟨t, e1, e2, e3⟩ := o
  rcases getSet e1 with ⟨_, z⟩ | ⟨hn, z⟩
  · cases z
  · rcases getSet e3 with ⟨w, _⟩ | ⟨_, w⟩
    · exact absurd w hn
    · exact ⟨t, z, e2, w⟩
theorem REnv.none (r : REnv W F μ H env σ) (i : Nat) : REnv W F μ H (env.set i none) (σ.set i none) where
  len := by rw [List.length_set, List.length_set]; exact r.len
  sl := fun j s e => by
    rcases getSet e with ⟨_, z⟩ | ⟨hn, z⟩
    · cases z
    · obtain ⟨y, e1, q⟩ := r.sl j s z
      exact ⟨y, by rw [List.getElem?_set_ne hn]; exact e1, q⟩
  sep := fun j k a h1 h2 => r.sep j k a (own_none h1) (own_none h2)
theorem REnv.wipe (r : REnv W F μ H env σ) : ∀ vs : List Nat, REnv W F μ H (wipeE env vs) (L2.wipe σ vs)
  | [] => r
  | i :: is => (REnv.wipe r is).none i
theorem wipe_ext {σ σ' : L2.St} {vs : List Nat} (l : σ'.length = σ.length) (e : ∀ j, j ∉ vs → σ'[j]? = (L2.wipe σ vs)[j]?) : L2.wipe σ' vs = L2.wipe σ vs := by
  have key : ∀ (us : List Nat) (τ : L2.St) (j : Nat), (L2.wipe τ us)[j]? = if j ∈ us then (if j < τ.length then some none else none) else τ[j]? := by
    intro us
    induction us with
    | nil => intro τ j; rw [if_neg (by simp)]; rfl
    | cons i is ih =>
      intro τ j
      show ((L2.wipe τ is).set i none)[j]? = _
      by_cases hij : i = j
      · subst hij
        rw [if_pos List.mem_cons_self]
        by_cases hl : i < τ.length
        · rw [if_pos hl, List.getElem?_set_self (by rw [L2.wipe_length]; exact hl)]
        · rw [if_neg hl]
          refine List.getElem?_eq_none ?_
          rw [List.length_set, L2.wipe_length]
          omega
      · rw [List.getElem?_set_ne hij, ih τ j]
        by_cases hm : j ∈ is
        · rw [if_pos hm, if_pos (List.mem_cons_of_mem _ hm)]
        · rw [if_neg hm, if_neg (fun z => (List.mem_cons.mp z).elim (fun q => hij q.symm) hm)]
  refine List.ext_getElem? fun j => ?_
  rw [key vs σ' j, key vs σ j]
  by_cases hm : j ∈ vs
  · rw [if_pos hm, if_pos hm, l]
  · rw [if_neg hm, if_neg hm, e j hm, key vs σ j, if_neg hm]

/-- the turns of a comprehension -/
structure LcInv (W : Wd) (D : Addr) (F1 : Addr → Prop) (μ1 : List Addr) (H1 : Hp) (G : Val → Hs → Out (Option Val)) (xs : List Val) (Good : List Val → Hs → Prop) (i m : Nat) (Hc : Hp) : Prop where
  me : m = xs.length - i
  le : i ≤ xs.length
  ex : ∃ Fc μc hc ws acc, RSt W Fc μc Hc hc ∧ Stp F1 μ1 H1 Fc μc Hc ∧ ¬ Fc D ∧ D ∉ μc ∧ Hc D = some (.lst acc) ∧ RVs W Fc μc Hc ws acc ∧ ws.length ≤ i ∧
    Aft (mapF G (xs.drop i) hc) (fun r h' => Good (ws ++ r) h') (fun _ _ _ => True)

theorem mapF_step {G : Val → Hs → Out (Option Val)} {v : Val} {rest : List Val} {hc : Hs} {Good : List Val → Hs → Prop} (q : Aft (mapF G (v :: rest) hc) Good (fun _ _ _ => True)) :
    ∃ o h2, G v hc = .ok o h2 ∧ Aft (mapF G rest h2) (fun r h' => Good (consO o r) h') (fun _ _ _ => True) := by
  have q1 : Aft ((nx (G v hc)).bind fun o h => (mapF G rest h).bind fun r h => .ok (consO o r) h) Good (fun _ _ _ => True) := q
  cases hg : G v hc with
  | ok o h2 =>
    rw [hg] at q1
    refine ⟨o, h2, rfl, ?_⟩
    have q2 : Aft ((mapF G rest h2).bind fun r h => .ok (consO o r) h) Good (fun _ _ _ => True) := q1
    cases hm : mapF G rest h2 with
    | ok r h3 =>
      rw [hm] at q2
      exact q2
    | exc _ _ _ => trivial
    | bad =>
      rw [hm] at q2
      exact q2
  | exc _ _ _ =>
    rw [hg] at q1
    exact q1.elim
  | bad =>
    rw [hg] at q1
    exact q1.elim
theorem bind_ok {α β : Type} {m : Out α} {f : α → Hs → Out β} {b : β} {h : Hs} (e : m.bind f = .ok b h) : ∃ a h1, m = .ok a h1 ∧ f a h1 = .ok b h := by
  cases m with
  | ok a h1 => exact ⟨a, h1, rfl, e⟩
  | exc _ _ _ => cases e
  | bad => cases e
theorem opt_ok {α : Type} {o : Option α} {h h' : Hs} {a : α} (e : ofOpt o h = .ok a h') : o = some a ∧ h = h' := by
  cases o with
  | some b =>
    cases e
    exact ⟨rfl, rfl⟩
  | none => cases e
theorem mapF_no {G : Val → Hs → Out (Option Val)} : ∀ (xs : List Val) (h : Hs) {Good : List Val → Hs → Prop} {X : Nat → Val → Hs → Prop}, Aft (mapF G xs h) Good X → Aft (mapF G xs h) Good (fun _ _ _ => True) := by
  intro xs h Good X q
  cases hm : mapF G xs h with
  | ok r h3 =>
    rw [hm] at q
    exact q
  | exc _ _ _ => trivial
  | bad =>
    rw [hm] at q
    exact q
theorem drop_cons {α : Type} {l : List α} {i : Nat} {v : α} (e : l[i]? = some v) : l.drop i = v :: l.drop (i + 1) := by
  obtain ⟨h1, h2⟩ := List.getElem?_eq_some_iff.mp e
  rw [List.drop_eq_getElem_cons h1, h2]
def compM (mi : Ev (List Val)) (tg : Tg) (mc : Ev Bool) (me : Ev Val) : Ev (List Val) := fun env h => (mi env h).bind fun xs h => if decide (xs.length ≤ most) then
      mapF (fun x h => (ofOpt (bindT tg x (wipeE env tg.slots)) h).bind fun env' h => (mc env' h).bind fun b h => keepIf b (me env' h) h) xs h else .bad
theorem comp_t {own : List (Str × Nat)} {mi : Ev (List Val)} {mc : Ev Bool} {me : Ev Val} {tg : Tg} (hsl : own.map (·.2) = tg.slots) {σ : L2.St} {H : Hp} {Q : VK} (q : RDf W Z (compM mi tg mc me) σ H Q) :
    tLc (RDi W Z mi) (gG W tg) (RDg W Z0 (fun _ _ _ _ b c => b = c) mc) (RD W Z0 me) (own.map (·.2)) σ H Q := by
  obtain ⟨F, μ, env, h, r, e, a⟩ := q
  unfold compM at a
  show RDi W Z mi σ H _
  refine rd_step r e a fun xs h1 F1 μ1 H1 J r1 e1 s1 wk a1 => ?_
  intro D nD
  by_cases hlen : decide (xs.length ≤ most) = true
  · rw [if_pos hlen] at a1
    have hlen' : xs.length ≤ most := of_decide_eq_true hlen
    generalize hG : (fun x h => (ofOpt (bindT tg x (wipeE env tg.slots)) h).bind fun env' h => (mc env' h).bind fun b h => keepIf b (me env' h) h : Val → Hs → Out (Option Val)) = G at a1
    generalize hGood : (fun (v : List Val) (h' : Hs) => ∀ (F' : Addr → Prop) (μ' : List Addr) (H' : Hp) (x : V), RSt W F' μ' H' h' → Stp F μ H F' μ' H' → Fresh W H F' μ' H' v x → Q x H') = Good at a1
    refine ⟨LcInv W D F1 μ1 H1 G xs Good, ⟨xs.length, by simp, Nat.zero_le _, F1, μ1, h1, [], [], r1.fresh nD, Stp.fresh nD (r1.notF nD), r1.notF nD, r1.notM nD, upd_same, rfl, Nat.le_refl _, mapF_no xs h1 a1⟩, fun i m Hc iv => ?_⟩
    obtain ⟨em, le, Fc, μc, hc', ws, acc, rc, sc, nfD, nmD, gD, rv, hwl, ac⟩ := iv
    have w1 := wk Fc μc Hc hc' rc sc.mon
    by_cases hie : i = xs.length
    · subst hie
      refine .inl ⟨w1.2, ?_⟩
      rw [List.drop_length] at ac
      have fin : Good (ws ++ []) hc' := ac
      rw [List.append_nil, ← hGood] at fin
      refine fin Fc μc Hc (.ref D) rc (s1.trans sc) ⟨D, acc, rfl, ?_, nfD, nmD, gD, rv⟩
      cases hd : H D with
      | none => rfl
      | some o => exact absurd nD (s1.lv D (by rw [hd]; exact fun z => by cases z))
    · have hlt : i < xs.length := by omega
      have hv : xs[i]? = some xs[i] := List.getElem?_eq_getElem hlt
      rw [drop_cons hv] at ac
      obtain ⟨o, h2, eG, ac2⟩ := mapF_step ac
      rw [← hG] at eG
      obtain ⟨env', h3, eb0, eG⟩ := bind_ok eG
      obtain ⟨eb, eh⟩ := opt_ok eb0
      subst eh
      obtain ⟨b, h4, ec, eG⟩ := bind_ok eG
      obtain ⟨go, yl⟩ := w1.1 i xs[i] hv
      refine .inr ⟨go, LcInv W D F1 μ1 H1 G xs Good (i + 1) (xs.length - (i + 1)), fun H' q => ⟨xs.length - (i + 1), by omega, q⟩, fun y H' hy => ?_⟩
      obtain ⟨F2, r2, s2, v2⟩ := yl y H' hy
      have sc2 := sc.trans s2
      rw [hsl]
      refine ⟨F2, μc, wipeE env tg.slots, hc', xs[i], env', r2, (e1.mono sc2).wipe tg.slots, v2, eb, fun σ' e2 n2 l2 o2 => ⟨wipe_ext (l2.trans (L2.wipe_length σ _)) n2, ?_⟩⟩
      refine ⟨F2, μc, env', hc', r2, e2, ?_⟩
      rw [ec]
      intro F3 μ3 H3 b' r3 s3 hb'
      subst hb'
      have gD2 : H' D = some (.lst acc) := s2.keep D _ gD nmD
      have gD3 : H3 D = some (.lst acc) := s3.keep D _ gD2 nmD
      have nfD2 : ¬ F2 D := fun z => by
        rcases s2.fn D z with z | z | ⟨⟨_, z, im⟩, _⟩
        · exact nfD z
        · rw [gD] at z; cases z
        · rw [gD] at z; cases z; exact im
      have nfD3 : ¬ F3 D := fun z => by
        rcases s3.fn D z with z | z | ⟨⟨_, z, im⟩, _⟩
        · exact nfD2 z
        · rw [gD2] at z; cases z
        · rw [gD2] at z; cases z; exact im
      have nmD3 : D ∉ μ3 := fun z => by
        rcases s3.mn D z with z | z
        · exact nmD z
        · rw [gD2] at z; cases z
      cases b with
      | true =>
        rw [if_pos rfl]
        have eG' : (me env' h4).bind (fun y h => Out.ok (some y) h) = .ok o h2 := eG
        obtain ⟨v5, h5, e5, eG⟩ := bind_ok eG'
        cases eG
        refine ⟨F3, μ3, env', h4, r3, e2.mono s3, ?_⟩
        rw [e5]
        intro F6 μ6 H6 z r6 s6 v6
        have gD6 : H6 D = some (.lst acc) := s6.keep D _ gD3 nmD3
        have nfD6 : ¬ F6 D := fun z => by
          rcases s6.fn D z with z | z | ⟨⟨_, z, im⟩, _⟩
          · exact nfD3 z
          · rw [gD3] at z; cases z
          · rw [gD3] at z; cases z; exact im
        have nmD6 : D ∉ μ6 := fun z => by
          rcases s6.mn D z with z | z
          · exact nmD3 z
          · rw [gD3] at z; cases z
        have sAll : Stp Fc μc Hc F6 μ6 H6 := (s2.trans s3).trans s6
        refine ⟨acc, gD6, ?_, ?_⟩
        · rw [← RVs.length rv]
          exact Nat.lt_of_le_of_lt (Nat.le_trans hwl (Nat.le_trans le hlen')) (by rw [sizeLine_eq]; decide)
        · refine ⟨rfl, hlt, F6, μ6, h2, ws ++ [v5], acc ++ [z], r6.out nfD6 nmD6, Stp.again r1 (sc.trans sAll) nD nfD6 (by rw [gD6]; exact fun q => by cases q), nfD6, nmD6, upd_same,
            RVs.out nfD6 _ _ (RVs.append (RVs.mono sAll _ _ rv) ⟨z, [], rfl, v6, rfl⟩), by rw [List.length_append]; exact Nat.succ_le_succ hwl, ?_⟩
          have ac3 : Aft (mapF G (xs.drop (i + 1)) h2) (fun r h' => Good (ws ++ v5 :: r) h') (fun _ _ _ => True) := ac2
          have ee : (fun (r : List Val) (h' : Hs) => Good (ws ++ [v5] ++ r) h') = fun r h' => Good (ws ++ v5 :: r) h' := by
            funext r h'
            rw [List.append_assoc]
            rfl
          rw [ee]
          exact ac3
      | false =>
        rw [if_neg Bool.false_ne_true]
        have eG' : Out.ok none h4 = .ok o h2 := eG
        cases eG'
        have sAll : Stp Fc μc Hc F3 μ3 H3 := s2.trans s3
        exact ⟨rfl, hlt, F3, μ3, h2, ws, acc, r3, sc.trans sAll, nfD3, nmD3, gD3, RVs.mono sAll _ _ rv, Nat.le_succ_of_le hwl, ac2⟩
  · rw [if_neg hlen] at a1
    exact a1.elim
theorem comp_ok {elt tgx iter : Expr} {ifs : List Expr} {scope : Scope} {own : List (Str × Nat)} {pos : Pos} {mi : Ev (List Val)} {mc : Ev Bool} {me : Ev Val} {tg : Tg}
    (hc : X.calm = true) (hN : X.N.Nodup) (hi : PI X tgx iter (RDi W Z mi)) (ok : BlkOk X.N X.env.scope scope own) (hsl : own.map (·.2) = tg.slots)
    (hg : ∀ (s : Shared) (H : Hp) (C : Addr) (cl : List (Str × Addr)) (fp : List Addr), PG (X.blk s H scope (compEnvC scope cl C X.env) fp) tgx (gG W tg))
    (ht : ∀ (s : Shared) (H : Hp) (C : Addr) (cl : List (Str × Addr)) (fp : List Addr), PTs (X.blk s H scope (compEnvC scope cl C X.env) fp) ifs (RDg W Z0 (fun _ _ _ _ b c => b = c) mc))
    (he : ∀ (s : Shared) (H : Hp) (C : Addr) (cl : List (Str × Addr)) (fp : List Addr), PE (X.blk s H scope (compEnvC scope cl C X.env) fp) elt (RD W Z0 me)) (hs : ∀ x, foldedSetIterable iter X.env x = pure x) :
    PE X (.ListComp elt [⟨tgx, iter, ifs, 0⟩] scope pos) (RDf W Z (fun env h => (mi env h).bind fun xs h => if decide (xs.length ≤ most) then
      mapF (fun x h => (ofOpt (bindT tg x (wipeE env tg.slots)) h).bind fun env' h => (mc env' h).bind fun b h => keepIf b (me env' h) h) xs h else .bad)) := by
  exact PE.imp (pe_lc hc hN hi ok hg ht he hs) fun σ H Q q => comp_t hsl q
end
end Pyi
set_option Elab.async false
set_option linter.all false
set_option maxRecDepth 100000
set_option maxHeartbeats 2000000
/-! Dicts whose keys are tuples: a comprehension, the list of the items. -/
namespace DTu
open PySem PySem.Spec PyProof.Rows L2
/-- the table at D gets an entry, in a comprehension -/
theorem put_in {X : Cx} {pins : List (Addr × Obj)} {σ : L2.St} {H : Hp} {s : Shared} {E : Value → Shared → Prop} {D b : Addr} {kvs : List (List Key × V)} {ks : List Key} {v : V} {r : Value} {Q : Unit → Shared → Prop} (hu : X.A.units + 1 < cLine) (I : Inv X pins σ H s) (hD : H D = some (.dT kvs))
    (hb : H b = some (.tup (ks.map kV))) (small : kvs.length < sizeLine) (rv : RelV v r) (h : ∀ t, Inv X pins σ (upd H D (.dT (putK kvs ks v))) t → Q () t) : wpAny (model X.prog X.w) X.A (dictSet D (.ref b) r) Q E s := by
  obtain ⟨z, ns, xs, rel, dd⟩ := dt_of I.hok hD
  have room : xs.length ≤ sizeLine := by rw [← Paired.length rel]; exact z
  have more : (putK kvs ks v).length ≤ sizeLine := by have := length_putK kvs ks v; omega
  refine wpAny_dictSet_heap (hsz := room) (show (tupleKind (mixKind X.prog X.w)).room X.A from (show X.A.units < cLine by omega)) (key_of I.hok hb) dd fun h' dd' sb => h _ ?_
  obtain ⟨q, es, ep, hq, h2, h3, h4, _, h5⟩ := dd'
  refine d_write I (by rw [hD]; exact True.intro) sb ⟨q, hq⟩ ⟨more, ns, _, (rel.put ks hb rv).keeps fun c ys ec => ?_, q, es, ep, hq, h2, h3, h4, h5⟩
  rw [upd_ne (ne_of ec hD (fun z => nomatch z))]
  exact ec
section
variable {X : Cx}
/-- {k: v for target in iter if ..}, the keys tuples: D the new dict -/
def tDcT (wi : TI) (g : TG) (tt : TT) (tk tv : TE) (vs : List Nat) : TE := fun σ H Q => wi σ H fun J H1 => ∀ D, H1 D = none → ∃ W : Nat → Nat → Hp → Prop, (∃ m, W 0 m (upd H1 D (.dT []))) ∧ ∀ i m H, W i m H →
  (J.stop i H ∧ Q (.ref D) H) ∨ (J.go i H ∧ ∃ Nx : Hp → Prop, (∀ H', Nx H' → ∃ m', m' < m ∧ W (i + 1) m' H') ∧ ∀ x H', J.yld i H x H' → g x (wipe σ vs) H' fun σ2 H2 => wipe σ2 vs = wipe σ vs ∧ tt σ2 H2 fun b H3 =>
    if b = true then tk σ2 H3 fun y H4 => tv σ2 H4 fun z H5 => ∃ kvs k c, y = .ref c ∧ H5 c = some (.tup (List.map kV k)) ∧ H5 D = some (.dT kvs) ∧ kvs.length < sizeLine ∧ Nx (upd H5 D (.dT (putK kvs k z))) else Nx H3)
theorem pe_dcT {kx vx tg iter : Expr} {ifs : List Expr} {scope : Scope} {own : List (Str × Nat)} {pos : Pos} {wi : TI} {g : TG} {tt : TT} {tk tv : TE} (hu : X.A.units + 1 < cLine) (hc : X.calm = true) (hN : X.N.Nodup) (hi : PI X tg iter wi) (ok : BlkOk X.N X.env.scope scope own)
    (hg : ∀ (s : Shared) (H : Hp) (C : Addr) (cl : List (Str × Addr)) (fp : List Addr), PG (X.blk s H scope (compEnvC scope cl C X.env) fp) tg g) (ht : ∀ (s : Shared) (H : Hp) (C : Addr) (cl : List (Str × Addr)) (fp : List Addr), PTs (X.blk s H scope (compEnvC scope cl C X.env) fp) ifs tt)
    (hk : ∀ (s : Shared) (H : Hp) (C : Addr) (cl : List (Str × Addr)) (fp : List Addr), PE (X.blk s H scope (compEnvC scope cl C X.env) fp) kx tk) (he : ∀ (s : Shared) (H : Hp) (C : Addr) (cl : List (Str × Addr)) (fp : List Addr), PE (X.blk s H scope (compEnvC scope cl C X.env) fp) vx tv)
    (hs : ∀ x, foldedSetIterable iter X.env x = pure x) : PE X (.DictComp kx vx [⟨tg, iter, ifs, 0⟩] scope pos) (tDcT wi g tt tk tv (own.map (·.2))) := by
  refine ⟨fun pins s σ H Q I h => ?_⟩
  rw [arm_eval_DictComp]
  have clo : ∀ y ∈ scope.names, y.2 = .free → ∃ c, X.env.cells.lookup y.1 = some c := fun y hy e => I.ok.has _ (ok.free y hy e)
  refine wpAny_comprehension_free (use := none) rfl hs (closure_ok clo) ok.kind (fun y hy e => by rw [ok.uniq y hy, e]) (thn (hi.run pins s σ H _ I h) fun xv s1 hx => thn hx fun itv s2 h2 => ?_)
  obtain ⟨it, fp, tn, J, H2, rfl, I2, T, st2, f2, q⟩ := h2
  refine wpAny_newObj_type (newEnv_comp ?_)
  generalize hD : s2.heap.objs.size = D
  obtain ⟨W, ⟨m0, w0⟩, turn⟩ := q D (I2.hok.fresh (Nat.le_of_eq hD))
  generalize hs3 : ({ s2 with heap := s2.heap.push { cls := .type "dict", data := .dict #[] } } : Shared) = s3
  have I3 : Inv X pins σ (upd H2 D (.dT [])) s3 := by
    rw [← hs3]
    exact I2.laid (t' := s2.toks) (fun b o e => Heap.get?_push_of_some _ e) (Nat.le_of_eq hD) (by rw [← hD]; exact dt_empty s2.heap I2.big)
  have h3 : s3.heap = s2.heap.push { cls := .type "dict", data := .dict #[] } := by rw [← hs3]
  have lt2 : ∀ b ∈ fp, b < s2.heap.objs.size := fun b hb => let ⟨o, e, _⟩ := T.obj _ _ st2 b hb; Heap.lt_size e
  have f3 : ∀ b ∈ fp, FpOk X pins (upd H2 D (.dT [])) b ∧ b < s3.heap.objs.size := by
    intro b hb
    have l := lt2 b hb
    refine ⟨⟨?_, (f2 b hb).2⟩, by rw [h3, Heap.size_push]; exact Nat.lt_succ_of_lt l⟩
    rw [upd_ne (show b ≠ D from hD ▸ Nat.ne_of_lt l)]
    exact (f2 b hb).1
  have st3 : tn 0 s3.heap := T.keep _ _ _ st2 fun b _ o e => by rw [h3]; exact Heap.get?_push_of_some _ e
  have I4 := block_start I3 ok hN f3
  let cl := cellsFrom (s3.heap.objs.size + 1) scope.names (cloFrom X.env.cells scope.names [])
  have pg := hg s3 (upd H2 D (.dT [])) s3.heap.objs.size cl fp
  have pt := ht s3 (upd H2 D (.dT [])) s3.heap.objs.size cl fp
  have pk := hk s3 (upd H2 D (.dT [])) s3.heap.objs.size cl fp
  have pe := he s3 (upd H2 D (.dT [])) s3.heap.objs.size cl fp
  show codeAny _ _ (.compStart (.DictComp kx vx [⟨tg, iter, ifs, 0⟩] scope pos) 0 (.ref it) (.ref D) (compEnvC scope cl s3.heap.objs.size X.env)) (compPost (model X.prog X.w) X.A X.xe none _ (.ref D) s3.heap.objs.size) { s3 with heap := pushCells (s3.heap.push { cls := .type "dict", data := .dict #[] }) scope.names }
  have nfp : ∀ b ∈ fp, (upd H2 D (.dT [])) b = none := fun b hb => (f3 b hb).1.1
  have I4 : Inv (X.blk s3 (upd H2 D (.dT [])) scope (compEnvC scope cl s3.heap.objs.size X.env) fp) [] _ _ _ := I4
  generalize hce : compEnvC scope cl s3.heap.objs.size X.env = ce at I4 pg pt pk pe ⊢
  have cL : ce.locals = s3.heap.objs.size := by subst hce; rfl
  generalize hH3 : upd H2 D (.dT []) = H3 at I3 I4 pg pt pk pe w0 nfp f3
  generalize hs4 : ({ s3 with heap := pushCells (s3.heap.push { cls := .type "dict", data := .dict #[] }) scope.names } : Shared) = s4 at I4 ⊢
  have st4 : tn 0 s4.heap := T.keep _ _ _ st3 fun b _ o e => by rw [← hs4]; exact pushCells_keeps _ _ _ _ (Heap.get?_push_of_some _ e)
  have fix : ∀ {τ : L2.St} {G : Hp} {t : Shared}, Inv (X.blk s3 H3 scope ce fp) [] τ G t → (∀ b ∈ fp, G b = none) → ∀ b ∈ fp, FpOk (X.blk s3 H3 scope ce fp) [] G b := by
    intro τ G t J hn b hb
    exact ⟨hn b hb, (J.ok.exf b hb).1, J.ok.exfs b hb, .inl hb, fun x c e => (J.ok.exf b hb).2 x c e, fun p hp => absurd (show p ∈ ([] : List (Addr × Obj)) ++ [] from hp) (by simp)⟩
  refine codeAny_compStart_dict ?loop (T.self X.A 0 _ _ _ st4 ?loop)
  refine compLoop_anyD (fun n t => ∃ i G, Inv (X.blk s3 H3 scope ce fp) [] (wipe σ (own.map (·.2))) G t ∧ tn i t.heap ∧ (∀ b ∈ fp, G b = none) ∧ W i n G) ?_ m0 ⟨0, H3, I4, st4, nfp, w0⟩
  rintro n s5 ⟨i, H5, I5, st5, n5, w5⟩
  rcases turn i n H5 w5 with ⟨stop, qq⟩ | ⟨go, Nx, hNx, step⟩
  · refine thnF (T.done (X.blk s3 H3 scope ce fp) rfl rfl rfl hc i [] s5 _ H5 (fun _ _ => False) I5 (fix I5 n5) st5 stop) ?_
    rintro r s6 ⟨rfl, I6⟩
    have I7 : Inv X pins σ H5 s6 := I3.call' (ch := fp) I6.os I6.base I6.hok I6.bare fun b hb => let z := (f3 b hb).1; ⟨z.2.2.2.1, z.2.1, z.2.2.2.2.1, z.2.2.2.2.2⟩
    have nC : H5 s3.heap.objs.size = none := cL ▸ (show H5 ce.locals = none from I6.free)
    obtain ⟨m, hn, _⟩ := I6.loc
    have hn : s6.heap.Ns s3.heap.objs.size m := cL ▸ (show s6.heap.Ns ce.locals m from hn)
    refine ⟨m, hn, fun h'' sb => ?_⟩
    obtain ⟨f0, f1, fx, f3, f4, f5⟩ := I3.fpOk (Nat.le_refl _) nC
    exact ⟨.ref D, H5, I7.turned (t' := s6.toks) (fun b o hb e => (sb.2 b hb).trans e) f0 f1 f3 f4 f5, rfl, qq⟩
  · refine thnF (T.item (X.blk s3 H3 scope ce fp) rfl rfl rfl hc i [] s5 _ H5 (fun _ _ => False) I5 (fix I5 n5) st5 go) ?_
    rintro r s6 ⟨u, rfl, h6⟩
    refine thnF h6 ?_
    rintro _ s7 ⟨x, H7, I7, r7, y7, st7, n7⟩
    have I7' := I7.pinned (fix I7 n7) (T.obj _ _ st7)
    refine thnF (pg.run _ s7 _ H7 x u _ I7' r7 (step x H7 y7)) ?_
    rintro _ s8 ⟨σ8, H8, I8, hw8, q8⟩
    refine thnF (pt.run _ s8 σ8 H8 _ I8 q8) ?_
    rintro b s9 ⟨H9, I9, q9⟩
    have ends : ∀ {t : Shared} {G : Hp}, Inv (X.blk s3 H3 scope ce fp) ([] ++ pinsAt fp s7.heap) σ8 G t → Nx G → ∃ m, m < n ∧ ∃ i G, Inv (X.blk s3 H3 scope ce fp) [] (wipe σ (own.map (·.2))) G t ∧ tn i t.heap ∧ (∀ b ∈ fp, G b = none) ∧ W i m G := by
      intro t G J nx
      obtain ⟨m', hm, w'⟩ := hNx G nx
      have pinned : ∀ b ∈ fp, ∀ o, s7.heap.get? b = some o → t.heap.get? b = some o ∧ G b = none := fun b hb o e =>
        let z := J.pin (b, o) (List.mem_append_right _ (List.mem_append_right _ (mem_pinsAt hb e)))
        ⟨z.1, z.2.1⟩
      refine ⟨m', hm, i + 1, G, (J.unpinned (pins := [])).weak (by rw [← hw8, wipe_length]) (fun j v e => ?_), T.keep _ _ _ st7 fun b hb o e => (pinned b hb o e).1, fun b hb => ?_, w'⟩
      · rw [← hw8] at e
        exact (wipe_some e).1
      · obtain ⟨o, e, _⟩ := T.obj _ _ st7 b hb
        exact (pinned b hb o e).2
    cases b with
    | false =>
      simp only [Bool.false_eq_true, if_false] at q9 ⊢
      exact ends I9 q9
    | true =>
      simp only [if_true] at q9 ⊢
      refine thnF (pk.run _ s9 σ8 H9 _ I9 q9) ?_
      rintro z s10 ⟨yk, H10, I10, r10, q10⟩
      refine thnF (pe.run _ s10 σ8 H10 _ I10 q10) ?_
      rintro z2 s11 ⟨yv, H11, I11, r11, kvs, ks, c, ek, hc11, hD11, hz11, nx⟩
      subst ek
      obtain rfl : z = Value.ref c := r10
      exact put_in (X := X.blk s3 H3 scope ce fp) hu I11 hD11 hc11 hz11 r11 fun s12 I12 => ends I12 nx
/-! ### list(d.items()) -/
/-- tuples tracked at their addresses -/
def putL : Hp → List Addr → List (List V) → Hp
  | H, a :: as, v :: vs => putL (upd H a (.tup v)) as vs
  | H, _, _ => H
theorem putL_off {b : Addr} : ∀ (as : List Addr) (vs : List (List V)) (H : Hp), b ∉ as → putL H as vs b = H b
  | [], _, _, _ => rfl
  | _ :: _, [], _, _ => rfl
  | a :: as, v :: vs, H, h => (putL_off as vs _ fun z => h (List.mem_cons_of_mem _ z)).trans (upd_ne fun z => h (z ▸ List.mem_cons_self))
theorem putL_at : ∀ (as : List Addr) (vs : List (List V)) (H : Hp), as.length = vs.length → as.Nodup → ∀ (j : Nat) (a : Addr), as[j]? = some a → ∃ v, vs[j]? = some v ∧ putL H as vs a = some (.tup v)
  | [], _, _, _, _, j, a, e => by simp at e
  | _ :: _, [], _, h, _, _, _, _ => by cases h
  | a :: as, v :: vs, H, h, hn, 0, b, e => by
    cases e
    exact ⟨v, rfl, (putL_off as vs _ (List.nodup_cons.mp hn).1).trans upd_same⟩
  | a :: as, v :: vs, H, h, hn, j + 1, b, e => putL_at as vs _ (Nat.succ.inj h) (List.nodup_cons.mp hn).2 j b e
def rItems2 : List V → Hp → VK → Prop := fun xs H Q => ∃ (p d : Addr) (kvs : List (List Key × V)), xs = [.ref p] ∧ H p = some (L2.DX.itemsO p d) ∧ H d = some (.dT kvs) ∧
  ∀ (G : Hp) (l : Addr) (ts : List Addr), (∀ b o, H b = some o → G b = some o) → H l = none → (∀ t ∈ ts, H t = none) → l ∉ ts → ts.Nodup → ts.length = kvs.length → G l = some (.lst (ts.map V.ref)) →
    (∀ (j : Nat) (t : Addr), ts[j]? = some t → ∃ q b, kvs[j]? = some q ∧ H b = some (.tup (q.1.map kV)) ∧ G t = some (.tup [.ref b, q.2])) → Q (.ref l) G
theorem call_items2 (hc : X.calm = true) : CallR X (.type "list") rItems2 := by
  intro pins s σ H xs us Q I r h
  obtain ⟨p, d, kvs, rfl, hp, hd, q⟩ := h
  obtain ⟨u, rfl, rx⟩ := vals1 r
  cases rx
  obtain ⟨view, _⟩ := (show ObjOk X.prog X.w H s.heap p (L2.DX.itemsO p d) from I.hok p _ hp)
  obtain ⟨z, _, ks, rel, o, es, ep, ho, hx, hdat, hes, his, _⟩ := dt_of I.hok hd
  have len : kvs.length = ks.length := Paired.length rel
  have sz : es.size = ks.length := by rw [← Array.length_toList, hes, List.length_map]
  refine PySem.W.dil_call (es := es) (ep := ep) (I.ok.hd hc) view ⟨o, ho, hx, hdat⟩ (by rw [sz, ← len]; exact z) fun h' tk acc c as keep obj ln G hacc => ?_
  have low : ∀ b o, s.heap.get? b = some o → b ∉ as ∧ b ≠ s.heap.objs.size := fun b o e => ⟨fun y => absurd (Heap.lt_size e) (Nat.not_lt.mpr (Nat.le_of_lt (G.above b y))), Nat.ne_of_lt (Heap.lt_size e)⟩
  have self : s.heap.objs.size ∉ as := fun y => Nat.lt_irrefl _ (G.above _ y)
  have nd : as.Nodup := List.Pairwise.imp (fun {a b} (h : a < b) => Nat.ne_of_lt h) G.rise
  have new : ∀ t ∈ as, H t = none := fun t ht => I.hok.fresh (Nat.le_of_lt (G.above t ht))
  have newS : H s.heap.objs.size = none := I.hok.fresh (Nat.le_refl _)
  let vs : List (List V) := (kvs.zip ks).map fun x => [V.ref x.2.2.1, x.1.2]
  have lvs : as.length = vs.length := by rw [ln, sz, List.length_map, List.length_zip, len, Nat.min_self]
  let H2 := putL (upd H s.heap.objs.size (.lst (as.map V.ref))) as vs
  have off : ∀ b, b ∉ as → b ≠ s.heap.objs.size → H2 b = H b := fun b h1 h2 => (putL_off as vs _ h1).trans (upd_ne h2)
  have atS : H2 s.heap.objs.size = some (.lst (as.map V.ref)) := (putL_off as vs _ self).trans upd_same
  have kp : ∀ b u, H b = some u → H2 b = some u := fun b u e => (off b (fun y => by rw [new b y] at e; cases e) (fun y => by rw [y, newS] at e; cases e)).trans e
  -- the j-th tuple
  have item : ∀ (j : Nat) (t : Addr), as[j]? = some t → ∃ q x, kvs[j]? = some q ∧ ks[j]? = some x ∧ H x.2.1 = some (.tup (q.1.map kV)) ∧ RelV q.2 x.2.2 ∧ H2 t = some (.tup [.ref x.2.1, q.2]) ∧ h'.get? t = some { cls := .type "tuple", data := .seq #[.ref x.2.1, x.2.2] } := by
    intro j t e
    obtain ⟨v, e1, e2⟩ := putL_at as vs (upd H s.heap.objs.size (.lst (as.map V.ref))) lvs nd j t e
    have e1' : ((kvs.zip ks)[j]?).map (fun x => [V.ref x.2.2.1, x.1.2]) = some v := by rw [← List.getElem?_map]; exact e1
    obtain ⟨y, e3, e4⟩ := Option.map_eq_some_iff.mp e1'
    obtain ⟨g1, g2⟩ := List.getElem?_zip_eq_some.mp e3
    obtain ⟨x2, g3, r1, r2, r3⟩ := LiI.paired_get rel g1
    rw [g2] at g3
    cases g3
    obtain ⟨hj, g4⟩ := G.pairs j t e
    have g5 : es[j]? = some (entryOfKey (tupleKind (mixKind X.prog X.w)) y.2) := by rw [entry_at hes j, g2]; rfl
    rw [Array.getElem?_eq_getElem hj] at g5
    have g6 := Option.some.inj g5
    refine ⟨y.1, y.2, g1, g2, by rw [r2], r3, (by rw [e4]; exact e2), ?_⟩
    rw [g4, g6]
    rfl
  refine ⟨.ref s.heap.objs.size, H2, ?_, rfl, q H2 s.heap.objs.size as kp newS new self nd (by rw [ln, sz, len]) atS fun j t e => ?_⟩
  · refine I.call' (ch := []) rfl ⟨fun b o q _ _ _ => keep b o q, fun b o q _ _ _ => ⟨o.slots, keep b o q⟩, fun b o q n _ => ?_, fun b o q _ => ⟨o, keep b o q⟩, fun b xs q => kp b _ q, fun b o u q => kp b _ q, fun b ps q => ⟨#[], by rw [kp b _ q]; simp⟩⟩ (fun b u q => ?_) I.bare fun b z => by simp at z
    · obtain ⟨z1, z2⟩ := low b o q
      rw [off b z1 z2]
      exact n
    · by_cases hb : b ∈ as
      · obtain ⟨j, hj, ej⟩ := List.mem_iff_getElem.mp hb
        obtain ⟨q1, x, _, _, _, r3, e2, e3⟩ := item j b (by rw [List.getElem?_eq_getElem hj, ej])
        rw [e2] at q
        cases q
        exact ⟨by show 2 ≤ sizeLine; decide, [.ref x.2.1, x.2.2], .cons rfl (.cons r3 .nil), ⟨_, e3, rfl, _, rfl⟩⟩
      · by_cases hb2 : b = s.heap.objs.size
        · rw [hb2] at q ⊢
          rw [atS] at q
          cases q
          refine ⟨by rw [List.length_map, ln, sz, ← len]; exact z, acc.toList, c, by rw [hacc]; exact LiI.vals_refs as, ?_⟩
          rw [Array.toArray_toList]
          exact obj
        · rw [off b hb hb2] at q
          exact (I.hok b u q).stay (fun d v _ y => keep d v y) (fun d y => kp d _ y) fun d xs y => kp d _ y
  · obtain ⟨q1, x, e1, _, e2, _, e3, _⟩ := item j t e
    exact ⟨q1, x.2.1, e1, e2, e3⟩
end
end DTu
set_option Elab.async false
set_option linter.all false
set_option maxRecDepth 100000
set_option maxHeartbeats 2000000
/-! t[::-1] of a tuple. -/
namespace DTu
open PySem PySem.Spec PyProof.Rows L2 HT
section
variable {prog : Program} {w : World} {A : Around} {E : Value → Shared → Prop} {s : Shared}
theorem back_places (n : Nat) : Builtin.Slice.slicePlaces ((n : Int) - 1) (-1) (-1) = n := by
  unfold Builtin.Slice.slicePlaces
  rw [if_neg (by decide)]
  split <;> simp <;> omega
theorem fm_map {α β : Type} (f : α → Option β) (g : α → β) : ∀ l : List α, (∀ k ∈ l, f k = some (g k)) → l.filterMap f = l.map g
  | [], _ => rfl
  | x :: l, h => by
    rw [List.filterMap_cons, h x List.mem_cons_self, List.map_cons, fm_map f g l fun k hk => h k (List.mem_cons_of_mem _ hk)]
theorem vals_back : ∀ {xs : List V} {us : List Value}, Vals xs us → Vals xs.reverse us.reverse
  | _, _, .nil => .nil
  | _, _, .cons r t => by
    rw [List.reverse_cons, List.reverse_cons]
    exact Vals.append (vals_back t) (.cons r .nil)
theorem back_pick (xs : Array Value) : ((List.range xs.size).filterMap fun (k : Nat) => xs[(((xs.size : Int) - 1) + (k : Int) * (-1)).toNat]?).toArray = xs.toList.reverse.toArray := by
  congr 1
  refine List.ext_getElem? fun j => ?_
  have e : ∀ k ∈ List.range xs.size, xs[(((xs.size : Int) - 1) + (k : Int) * (-1)).toNat]? = some (xs.toList.reverse.getD k default) := by
    intro k hk
    have hk' := List.mem_range.mp hk
    have e1 : (((xs.size : Int) - 1) + (k : Int) * (-1)).toNat = xs.size - 1 - k := by omega
    rw [e1]
    have h1 : xs.size - 1 - k < xs.size := by omega
    rw [Array.getElem?_eq_getElem h1]
    congr 1
    rw [List.getD_eq_getElem?_getD, List.getElem?_reverse (by rw [Array.length_toList]; exact hk'), Array.length_toList]
    first | (rw [Array.getElem?_toList, Array.getElem?_eq_getElem h1] <;> rfl) | (rw [Array.getElem?_eq_getElem h1] <;> rfl)
  have e2 : ((List.range xs.size).filterMap fun (k : Nat) => xs[(((xs.size : Int) - 1) + (k : Int) * (-1)).toNat]?) = (List.range xs.size).map fun k => xs.toList.reverse.getD k default := by
    exact fm_map _ _ _ e
  rw [e2]
  by_cases hj : j < xs.size
  · rw [List.getElem?_map, List.getElem?_range hj]
    show some (xs.toList.reverse.getD j default) = _
    rw [List.getD_eq_getElem?_getD, List.getElem?_eq_getElem (by rw [List.length_reverse, Array.length_toList]; exact hj)]
    rfl
  · rw [List.getElem?_eq_none (by rw [List.length_map, List.length_range]; omega), List.getElem?_eq_none (by rw [List.length_reverse, Array.length_toList]; omega)]
theorem getItem_back {t sl : Addr} {items : Array Value} {u : Tok} {Q : Value → Shared → Prop} (ht : IsTup s.heap t items) (hs : s.heap.IsSliceOf sl .none .none (.int (-1) u))
    (h : Q (.ref s.heap.objs.size) { s with heap := s.heap.push { cls := .type "tuple", data := .seq items.toList.reverse.toArray } }) (hsz : items.size ≤ sizeLine) : wpAny (model prog w) A (getItem (.ref t) (.ref sl)) Q E s := by
  have room : sizeOk (.seq items.toList.reverse.toArray) := by
    show items.toList.reverse.toArray.size ≤ sizeLine
    rw [List.size_toArray, List.length_reverse, Array.length_toList]
    exact hsz
  obtain ⟨os, hos, hcs, hds⟩ := id hs
  have hTs : s.TypeIs (.ref sl) "slice" := ⟨os, hos, hcs⟩
  unfold getItem
  try with_reducible refine wpAny_holding ?_
  first | refine wpAny_bind (wpAny_pure ?_) | skip
  refine wpAny_bind (wpAny_sequenceKey ht.typeIs (by decide) (wpAny_bind (wpAny_callSpecial?_slot (name := Str.ofString "__getitem__") ht.typeIs PyProof.Rows.slot_tuple_getitem
    (wpAny_call_entry PyProof.Rows.slot_tuple_getitem ht.typeIs entry_tuple_getitem ?_ (args_tuple_getitem _ _)))))
  show wpAny _ _ (Builtin.Tuple.tupleItemsOf (.ref t) >>= _) _ _ s
  refine wpAny_bind (tupleItemsOf_ ht (wpAny_bind (wpAny_typeOf hTs ?_)))
  rw [if_pos (by decide)]
  have app : ∀ {R : Int × Int × Nat → Shared → Prop} {E' : Value → Shared → Prop} {A' : Around}, R ((items.size : Int) - 1, -1, items.size) s → wpAny (model prog w) A' (Builtin.Slice.sliceApplied (.ref sl) (pure (items.size : Int))) R E' s := by
    intro R E' A' hR
    unfold Builtin.Slice.sliceApplied Builtin.Slice.sliceFields
    refine wpAny_bind (wpAny_bind (wpAny_field hos hds (x := .none) rfl (wpAny_bind (wpAny_field hos hds (x := .none) rfl (wpAny_bind (wpAny_field hos hds (x := .int (-1) u) rfl (wpAny_pure ?_)))))))
    refine wpAny_bind (slicePart_int ?_)
    show wpAny _ _ (if ((-1 : Int) == 0) = true then _ else _) _ _ s
    rw [if_neg (by decide)]
    refine wpAny_bind (slicePart_none (wpAny_bind (slicePart_none (wpAny_bind (wpAny_pure ?_)))))
    show wpAny _ _ (pure (((items.size : Int) - 1), (-1 : Int), Builtin.Slice.slicePlaces ((items.size : Int) - 1) (-1) (-1))) _ _ s
    rw [back_places]
    exact wpAny_pure hR
  refine wpAny_bind (app ?_)
  have no : ¬ ((((items.size : Int) - 1) == 0 && (-1 : Int) == 1 && items.size == items.size) = true) := by simp
  show wpAny _ _ (if (((items.size : Int) - 1) == 0 && (-1 : Int) == 1 && items.size == items.size) = true then _ else _) _ _ s
  rw [if_neg no, back_pick]
  first
    | exact wpAny_bind (m := Builtin.Tuple.tupleExact _) (wpAny_newObj_type (wpAny_pure ⟨_, rfl, wpAny_pure h⟩) room)
    | exact wpAny_bind (m := Builtin.Tuple.tupleExact _) (wpAny_newObj_type (wpAny_bind (wpAny_pure (wpAny_pure ⟨_, rfl, wpAny_pure h⟩))) room)
    | exact wpAny_bind (wpAny_bind (m := Builtin.Tuple.tupleExact _) (wpAny_newObj_type (wpAny_pure (wpAny_pure ⟨_, rfl, wpAny_pure h⟩)) room))
    | exact wpAny_bind (wpAny_bind (m := Builtin.Tuple.tupleExact _) (wpAny_newObj_type (wpAny_pure ⟨_, rfl, wpAny_pure h⟩) room))
end
section
variable {X : Cx}
/-- t[::-1] -/
def tBack (K : PySem.W.Frag) (te tc : TE) : TE := fun σ H Q => te σ H fun x H1 => tc σ H1 fun y H2 => y = .int (-1) ∧ ∃ a xs, x = .ref a ∧ SqT K H2 a xs ∧ ∀ p, H2 p = none → Q (.ref p) (upd H2 p (.tup xs.reverse))
theorem pe_back {e c : Expr} {te tc : TE} {pos p2 : Pos} (he : PE X e te) (hc : PE X c tc) : PE X (.Subscript e (.Slice none none (some c) p2) pos) (tBack X.K te tc) := by
  refine ⟨fun pins s σ H Q I h => ?_⟩
  refine Subscript_ (thn (he.run pins s σ H _ I h) fun v s1 ⟨x, H1, I1, r1, q1⟩ => ?_)
  refine wpAny_Slice (wpAny_pure (wpAny_pure (thn (hc.run pins s1 σ H1 _ I1 q1) ?_)))
  rintro uv s2 ⟨y, H2, I2, r2, ey, a, xs, ex, sq, q⟩
  subst ex ey
  cases r1
  obtain ⟨tk, rfl⟩ := r2
  have I4 : Inv X pins σ H2 { s2 with heap := s2.heap.push { cls := .type "slice", data := .fields #[.none, .none, .int (-1) tk] } } := I2.kept (t' := s2.toks) fun b ob q => Heap.get?_push_of_some _ q
  obtain ⟨its, r, ht, hz⟩ := I4.tuple sq
  have hlen : its.toArray.size = xs.length := by rw [List.size_toArray]; exact r.length.symm
  show wpAny (model X.prog X.w) X.A (subscriptTail e (.Slice none none (some c) p2) (.ref a) (.ref s2.heap.objs.size)) (EP X pins σ Q) X.xe { s2 with heap := s2.heap.push { cls := .type "slice", data := .fields #[.none, .none, .int (-1) tk] } }
  refine tail_any (ops := _) ht.typeIs PyProof.Rows.slot_tuple_getitem.lookup (getItem_back ht (Heap.IsSliceOf.new ..) ?_ (by rw [hlen]; exact hz)) (by with_unfolding_all rfl)
  refine ⟨.ref _, _, I4.laid (o := .tup xs.reverse) (fun b ob q => Heap.get?_push_of_some _ q) (Nat.le_refl _) ?_, rfl, q _ (I4.hok.fresh (Nat.le_refl _))⟩
  refine ⟨by rw [List.length_reverse]; exact hz, its.reverse, vals_back r, ?_⟩
  exact IsTup.new _ _
end
end DTu
set_option Elab.async false
set_option linter.all false
set_option maxRecDepth 100000
set_option maxHeartbeats 1000000
/-! The text of a program beside the interpreter's: a look that is run, and what it shows. -/
namespace Pyi
open PySem PySem.Spec PyProof.Rows L2

def Lit.V : Lit → L2.V
  | .non => .non
  | .bl b => .bl b
  | .int i => .int i
  | .str x => .str x
def Lit.const : Lit → Const
  | .non => .none
  | .bl b => .bool b
  | .int i => .int i
  | .str x => .str x
/-- a law's own names: its defs' (by the interpreter's numbers), how their arguments are filled up, its constants -/
structure Lk where
  fn : Nat → Option Str
  dfl : Nat → List (List Lit)
  gl : Str → Option Lit
  gt : Str → Option (List Int)
  pn : Nat → Option Str
  mn : Nat → Option Str
  cn : Nat → Option Str
  na : Nat → Str → Bool
  cl : Nat → Option Str
  eq : Nat → Bool
instance : DecidableEq Lit := fun a b => match a, b with
  | .non, .non => isTrue rfl
  | .bl a, .bl b => if h : a = b then isTrue (by rw [h]) else isFalse fun e => h (Lit.bl.inj e)
  | .int a, .int b => if h : a = b then isTrue (by rw [h]) else isFalse fun e => h (Lit.int.inj e)
  | .str a, .str b => if h : a = b then isTrue (by rw [h]) else isFalse fun e => h (Lit.str.inj e)
  | .non, .bl _ => isFalse nofun
  | .non, .int _ => isFalse nofun
  | .non, .str _ => isFalse nofun
  | .bl _, .non => isFalse nofun
  | .bl _, .int _ => isFalse nofun
  | .bl _, .str _ => isFalse nofun
  | .int _, .non => isFalse nofun
  | .int _, .bl _ => isFalse nofun
  | .int _, .str _ => isFalse nofun
  | .str _, .non => isFalse nofun
  | .str _, .bl _ => isFalse nofun
  | .str _, .int _ => isFalse nofun

/-! ### parts of a text -/
def asConst : Expr → Option Const
  | .Constant c _ _ => some c
  | _ => none
def asName : Expr → Option Str
  | .Name x _ => some x
  | _ => none
def asBin : Expr → Option (Expr × Operator × Expr)
  | .BinOp a o b _ => some (a, o, b)
  | _ => none
def asUn : Expr → Option (UnaryOp × Expr)
  | .UnaryOp o a _ => some (o, a)
  | _ => none
def asBool : Expr → Option (BoolOp × List Expr × Pos)
  | .BoolOp o es p => some (o, es, p)
  | _ => none
def asIf : Expr → Option (Expr × Expr × Expr)
  | .IfExp c a b _ => some (c, a, b)
  | _ => none
def asCmp : Expr → Option (Expr × List CmpOp × List Expr)
  | .Compare a os bs _ => some (a, os, bs)
  | _ => none
def asTup : Expr → Option (List Expr)
  | .Tuple es _ _ => some es
  | _ => none
def asList : Expr → Option (List Expr)
  | .List es _ => some es
  | _ => none
def asDict : Expr → Option (List (Option Expr) × List Expr)
  | .Dict ks vs _ => some (ks, vs)
  | _ => none
def asSub : Expr → Option (Expr × Expr)
  | .Subscript a i _ => some (a, i)
  | _ => none
def asSlice : Expr → Option (Option Expr × Option Expr × Option Expr)
  | .Slice a b c _ => some (a, b, c)
  | _ => none
def asCall : Expr → Option (Expr × List Expr × List Keyword)
  | .Call f es ks _ => some (f, es, ks)
  | _ => none
def asComp : Expr → Option (Expr × List Comprehension × Scope)
  | .ListComp e gs sc _ => some (e, gs, sc)
  | _ => none
theorem asConst_eq {x : Expr} {c : Const} (h : asConst x = some c) : ∃ k p, x = .Constant c k p := by cases x <;> cases h; exact ⟨_, _, rfl⟩
theorem asName_eq {x : Expr} {c : Str} (h : asName x = some c) : ∃ p, x = .Name c p := by cases x <;> cases h; exact ⟨_, rfl⟩
theorem asBin_eq {x : Expr} {a b : Expr} {o : Operator} (h : asBin x = some (a, o, b)) : ∃ p, x = .BinOp a o b p := by cases x <;> cases h; exact ⟨_, rfl⟩
theorem asUn_eq {x : Expr} {a : Expr} {o : UnaryOp} (h : asUn x = some (o, a)) : ∃ p, x = .UnaryOp o a p := by cases x <;> cases h; exact ⟨_, rfl⟩
theorem asBool_eq {x : Expr} {es : List Expr} {o : BoolOp} {p : Pos} (h : asBool x = some (o, es, p)) : x = .BoolOp o es p := by cases x <;> cases h; rfl
theorem asIf_eq {x : Expr} {c a b : Expr} (h : asIf x = some (c, a, b)) : ∃ p, x = .IfExp c a b p := by cases x <;> cases h; exact ⟨_, rfl⟩
theorem asCmp_eq {x : Expr} {a : Expr} {os : List CmpOp} {bs : List Expr} (h : asCmp x = some (a, os, bs)) : ∃ p, x = .Compare a os bs p := by cases x <;> cases h; exact ⟨_, rfl⟩
theorem asTup_eq {x : Expr} {es : List Expr} (h : asTup x = some es) : ∃ k p, x = .Tuple es k p := by cases x <;> cases h; exact ⟨_, _, rfl⟩
theorem asList_eq {x : Expr} {es : List Expr} (h : asList x = some es) : ∃ p, x = .List es p := by cases x <;> cases h; exact ⟨_, rfl⟩
theorem asDict_eq {x : Expr} {a : List (Option Expr)} {i : List Expr} (h : asDict x = some (a, i)) : ∃ p, x = .Dict a i p := by cases x <;> cases h; exact ⟨_, rfl⟩
theorem asSub_eq {x : Expr} {a i : Expr} (h : asSub x = some (a, i)) : ∃ p, x = .Subscript a i p := by cases x <;> cases h; exact ⟨_, rfl⟩
theorem asSlice_eq {x : Expr} {a b c : Option Expr} (h : asSlice x = some (a, b, c)) : ∃ p, x = .Slice a b c p := by cases x <;> cases h; exact ⟨_, rfl⟩
theorem asCall_eq {x : Expr} {f : Expr} {es : List Expr} {ks : List Keyword} (h : asCall x = some (f, es, ks)) : ∃ p, x = .Call f es ks p := by cases x <;> cases h; exact ⟨_, rfl⟩
theorem asComp_eq {x : Expr} {e : Expr} {gs : List Comprehension} {sc : Scope} (h : asComp x = some (e, gs, sc)) : ∃ p, x = .ListComp e gs sc p := by cases x <;> cases h; exact ⟨_, rfl⟩
def notStar : Expr → Bool
  | .Starred _ _ => false
  | _ => true
def notSlice : Expr → Bool
  | .Slice _ _ _ _ => false
  | _ => true
def notSet : Expr → Bool
  | .Set _ _ _ => false
  | _ => true
def notIf : Expr → Bool
  | .IfExp _ _ _ _ => false
  | _ => true
def notComp : Expr → Bool
  | .ListComp _ _ _ _ => false
  | .SetComp _ _ _ _ => false
  | .DictComp _ _ _ _ _ => false
  | _ => true
/-- a test that has a form of its own -/
def ownTest : Expr → Bool
  | .UnaryOp .Not _ _ => true
  | .BoolOp _ _ _ => true
  | .IfExp _ _ _ _ => true
  | .Compare _ _ _ _ => true
  | _ => false
theorem star_cons {x : Expr} {xs : List Expr} {env : PySem.Env} (h : notStar x = true) : starEach (x :: xs) env = (false, eval x env) :: starEach xs env := by
  cases x <;> first | rfl | cases h
theorem star_plain {xs : List Expr} {env : PySem.Env} {pos : Pos} (h : xs.all notStar = true) : (backTo pos (starEach xs env)).any (·.1) = false := by
  induction xs with
  | nil => rfl
  | cons x xs ih =>
    obtain ⟨a, b⟩ := and2 (show (notStar x && xs.all notStar) = true from h)
    rw [star_cons a]
    exact ih b
theorem true_def {x : Expr} {env : PySem.Env} (h : ownTest x = false) (wh : Sem Value) : isTrue x env wh = (do let v ← wh; standAt x.pos; holding [v] (truthy v)) := by
  cases x with
  | UnaryOp o a p => cases o <;> first | rfl | cases h
  | BoolOp _ _ _ => cases h
  | IfExp _ _ _ _ => cases h
  | Compare _ _ _ _ => cases h
  | _ => rfl
theorem sub_plain {x : Expr} (h : notSlice x = true) : PlainIx x := by
  intro o i
  cases x <;> first | rfl | cases h
theorem swaps_no {x : Expr} {t : Option Expr} {l : Nat} {env : PySem.Env} (h : notComp x = true) : swapsWith x t l env = pure false := by
  cases x <;> first | rfl | cases h
theorem fold_no {x : Expr} {env : PySem.Env} (h : notSet x = true) (v : Value) : foldedSetIterable x env v = pure v := by
  cases x <;> first | rfl | cases h
theorem mark_no {x : Expr} {o : CmpOp} (h : notSet x = true) : behindInMarks o x = false := by
  cases x <;> first | rfl | cases h

/-! ### names -/
def dbg (x : Str) : Bool := decide (x = ("__debug__" : Str)) || decide (x = ("__classdict__" : Str))
def visB (sc : Scope) (x : Str) : Bool := match sc.names.lookup x with
  | some .local => true
  | some .cell => true
  | some .free => true
  | _ => false
def gloB (sc : Scope) (x : Str) : Bool := decide (sc.names.lookup x = some .globalImplicit) && !dbg x
def locB (sc : Scope) (x : Str) : Bool := match sc.names.lookup x with
  | some .local => true
  | some .cell => true
  | _ => false
def biN : Bi → Str
  | .len => "len" | .int_ => "int" | .abs => "abs" | .str_ => "str" | .repr => "repr" | .tuple_ => "tuple" | .sum => "sum" | .all_ => "all" | .any_ => "any" | .max_ => "max" | .min_ => "min"
def tyN : Ty → Str
  | .int => "int" | .bool => "bool" | .str => "str" | .tuple => "tuple" | .list => "list" | .own _ => ""
def isBuiltTy : Ty → Bool
  | .own _ => false
  | _ => true
/-- the name of a slot -/
def nameIs (N : List Str) (sc : Scope) (i : Nat) (x : Expr) : Bool := match asName x with
  | some y => decide (N[i]? = some y) && visB sc y && !dbg y
  | none => false
/-- a name that is not one of the def's -/
def gnameIs (sc : Scope) (y : Str) (x : Expr) : Bool := match asName x with
  | some z => decide (z = y) && gloB sc y
  | none => false
mutual
def chkT (N : List Str) (ow : Scope) (t : Tg) (x : Expr) : Bool := match t with
  | .v i => match asName x with
    | some y => decide (N[i]? = some y) && locB ow y
    | none => false
  | .t l => match asTup x with
    | some es => es.all notStar && chkTs N ow l es
    | none => false
def chkTs (N : List Str) (ow : Scope) (ts : List Tg) (xs : List Expr) : Bool := match ts with
  | [] => match xs with | [] => true | _ => false
  | t :: ts => match xs with | x :: xs => chkT N ow t x && chkTs N ow ts xs | [] => false
end
/-- the names of a comprehension's target with their slots -/
def ownOf (N : List Str) (is : List Nat) : List (Str × Nat) := is.map fun i => (N.getD i "", i)
/-- -1 -/
def minusOne (x : Expr) : Bool := match asUn x with
  | some (o, p) => decide (o = .USub) && (match asConst p with
    | some c => decide (c = .int 1)
    | none => false)
  | none => false
def asDictComp : Expr → Option (Expr × Expr × List Comprehension × Scope)
  | .DictComp k v gs sc _ => some (k, v, gs, sc)
  | _ => none
theorem asDictComp_eq {x k v : Expr} {gs : List Comprehension} {sc : Scope} (h : asDictComp x = some (k, v, gs, sc)) : ∃ p, x = .DictComp k v gs sc p := by cases x <;> cases h; exact ⟨_, rfl⟩
/-- a method's call -/
def asMeth : Expr → Option (Expr × Str × Pos × List Expr × List Keyword × Pos)
  | .Call f es ks p => match f with
    | .Attribute o n ap => some (o, n, ap, es, ks, p)
    | _ => none
  | _ => none
theorem asMeth_eq {x o : Expr} {n : Str} {ap p : Pos} {es : List Expr} {ks : List Keyword} (h : asMeth x = some (o, n, ap, es, ks, p)) : x = .Call (.Attribute o n ap) es ks p := by
  cases x with
  | Call f es ks p => cases f <;> cases h; rfl
  | _ => cases h
def asAttr : Expr → Option (Expr × Str)
  | .Attribute o n _ => some (o, n)
  | _ => none
theorem asAttr_eq {x o : Expr} {n : Str} (h : asAttr x = some (o, n)) : ∃ p, x = .Attribute o n p := by cases x <;> cases h; exact ⟨_, rfl⟩
/-- no super() -/
def plainO : Expr → Bool
  | .Call _ es ks _ => !(es.isEmpty && ks.isEmpty)
  | _ => true
def asStar : Expr → Option Expr
  | .Starred e _ => some e
  | _ => none
theorem asStar_eq {x y : Expr} (h : asStar x = some y) : ∃ p, x = .Starred y p := by cases x <;> cases h; exact ⟨_, rfl⟩
def asFmt : Expr → Option Expr
  | .FormattedValue e c f _ => if c = -1 ∧ f.isNone = true then some e else none
  | _ => none
theorem asFmt_eq {x y : Expr} (h : asFmt x = some y) : ∃ p, x = .FormattedValue y (-1) none p := by
  cases x with
  | FormattedValue e c f p =>
    have h' : (if c = -1 ∧ f.isNone = true then some e else none) = some y := h
    by_cases hc : c = -1 ∧ f.isNone = true
    · rw [if_pos hc] at h'
      cases h'
      obtain ⟨h1, h2⟩ := hc
      cases f with
      | none => exact ⟨p, by rw [h1]⟩
      | some _ => cases h2
    · rw [if_neg hc] at h'
      cases h'
  | _ => cases h
def asJoined : Expr → Option (List Expr)
  | .JoinedStr es _ => some es
  | _ => none
theorem asJoined_eq {x : Expr} {es : List Expr} (h : asJoined x = some es) : ∃ p, x = .JoinedStr es p := by cases x <;> cases h; exact ⟨_, rfl⟩
/-- a written text -/
def isText (x : Expr) : Bool := match asConst x with
  | some (.str _) => true
  | _ => false
def isLitS : E → Bool
  | .lit l => match l with
    | .str _ => true
    | _ => false
  | _ => false
/-- the keys of a display are these texts -/
def chkKs : List Str → List (Option Expr) → Bool
  | [], ks => ks.isEmpty
  | n :: ns, ks => match ks with
    | [] => false
    | o :: ks => match o with
      | none => false
      | some x => match asConst x with
        | some c => decide (c = (Lit.str n).const) && chkKs ns ks
        | none => false
/-- [] -/
def emptyL (x : Expr) : Bool := match asList x with
  | some es => es.isEmpty
  | none => false
section
variable (L : Lk) (N : List Str)
mutual
def chkE (e : E) (sc ow : Scope) (x : Expr) : Bool := match e with
  | .lit l => match asConst x with
    | some c => decide (c = l.const)
    | none => false
  | .glb y l => gnameIs sc y x && decide (L.gl y = some l)
  | .var i => nameIs N sc i x
  | .bin o a b => match asBin x with
    | some (p, o', q) => decide (o' = opB o) && chkE a sc ow p && chkE b sc ow q
    | none => false
  | .neg a => match asUn x with
    | some (o, p) => decide (o = .USub) && chkE a sc ow p
    | none => false
  | .not_ a => match asUn x with
    | some (o, p) => decide (o = .Not) && notIf p && chkE a sc ow p
    | none => false
  | .and_ a b => match asBool x with
    | some (o, es, pos) => match es with
      | p :: q :: r => decide (o = .And) && notIf p && chkE a sc ow p && (match r with
        | [] => notIf q && chkE b sc ow q
        | _ :: _ => chkE b sc ow (.BoolOp .And (q :: r) pos))
      | _ => false
    | none => false
  | .or_ a b => match asBool x with
    | some (o, es, pos) => match es with
      | p :: q :: r => decide (o = .Or) && notIf p && chkE a sc ow p && (match r with
        | [] => notIf q && chkE b sc ow q
        | _ :: _ => chkE b sc ow (.BoolOp .Or (q :: r) pos))
      | _ => false
    | none => false
  | .ite c a b => match asIf x with
    | some (p, q, r) => notIf p && chkE c sc ow p && chkE a sc ow q && chkE b sc ow r
    | none => false
  | .cmp o a b => match asCmp x with
    | some (p, os, qs) => match os, qs with
      | [o'], [q] => decide (o' = opC o) && notSet q && chkE a sc ow p && chkE b sc ow q
      | _, _ => false
    | none => false
  | .chn o o2 a b c => match asCmp x with
    | some (p, os, qs) => match os, qs with
      | [o', o2'], [q, r] => decide (o' = opC o) && decide (o2' = opC o2) && notSet r && chkE a sc ow p && chkE b sc ow q && chkE c sc ow r
      | _, _ => false
    | none => false
  | .tup es => match asTup x with
    | some xs => decide (xs.length ≤ 1000) && es.all (fun e => !isStarE e) && chkEs es sc ow xs
    | none => false
  | .idx a i => match asSub x with
    | some (p, q) => notSlice q && chkE a sc ow p && chkE i sc ow q
    | none => false
  | .slc a lo hi => match asSub x with
    | some (p, q) => match asSlice q with
      | some (l, u, st) => st.isNone && chkE a sc ow p && chkO lo sc ow l && chkO hi sc ow u
      | none => false
    | none => false
  | .rev a => match asSub x with
    | some (p, q) => match asSlice q with
      | some (l, u, st) => match st with
        | some c => l.isNone && u.isNone && minusOne c && chkE a sc ow p
        | none => false
      | none => false
    | none => false
  | .call f es ds => match asCall x with
    | some (p, xs, ks) => ks.isEmpty && (match L.fn f with
      | some nm => gnameIs sc nm p
      | none => false) && decide (ds ∈ L.dfl f) && xs.all notStar && chkEs es sc ow xs
    | none => false
  | .bi b es => match asCall x with
    | some (p, xs, ks) => ks.isEmpty && gnameIs sc (biN b) p && !xs.isEmpty && xs.all notStar && chkEs es sc ow xs
    | none => false
  | .isi a t => match asCall x with
    | some (p, xs, ks) => match xs with
      | [y, z] => ks.isEmpty && gnameIs sc "isinstance" p && notStar y && chkE a sc ow y && (match t with
        | .own c => (match L.cl c with
          | some nm => gnameIs sc nm z
          | none => false)
        | t => gnameIs sc (tyN t) z)
      | _ => false
    | none => false
  | .fr f => chkF f sc ow x
  | .mk f => chkF f sc ow x
  | .olen i => match asCall x with
    | some (p, xs, ks) => match xs with
      | [y] => ks.isEmpty && gnameIs sc "len" p && nameIs N sc i y
      | _ => false
    | none => false
  | .oidx i e => match asSub x with
    | some (p, q) => notSlice q && nameIs N sc i p && chkE e sc ow q
    | none => false
  | .oemp i pos => match asCmp x with
    | some (p, os, qs) => match os, qs with
      | [o'], [q] => decide (o' = if pos then .Eq else .NotEq) && nameIs N sc i p && emptyL q
      | _, _ => false
    | none => false
  | .lenDC k tg it => match asCall x with
    | some (p, xs, ks) => match xs with
      | [y] => ks.isEmpty && gnameIs sc "len" p && (match asDictComp y with
        | some (kx, vx, gs, scp) => match gs with
          | [⟨tx, ix, ifs, as⟩] => decide (as = 0) && ifs.isEmpty && decide (asConst vx = some (.bool true)) && notSet ix && chkIt it tx sc ow ix && blkC N sc scp (ownOf N tg.slots) && chkT N scp tg tx && chkE k (relS scp sc) scp kx
          | _ => false
        | none => false)
      | _ => false
    | none => false
  | .lenSet f => false
  | .fld a y => match asAttr x with
    | some (o, n) => decide (n = y) && plainO o && chkE a sc ow o
    | none => false
  | .prop n a => match asAttr x with
    | some (o, y) => decide (L.pn n = some y) && plainO o && chkE a sc ow o
    | none => false
  | .meth n a es ds => match asMeth x with
    | some (o, y, ap, xs, ks, p) => ks.isEmpty && decide (L.mn n = some y) && plainO o && (ap.endLine == p.line) && decide (xs.length < 20) && decide (ds ∈ L.dfl n) && chkE a sc ow o && xs.all notStar && chkEs es sc ow xs
    | none => false
  | .new n es ds => match asCall x with
    | some (p, xs, ks) => ks.isEmpty && (match L.cn n with
      | some nm => gnameIs sc nm p
      | none => false) && decide (ds ∈ L.dfl n) && !xs.isEmpty && xs.all notStar && chkEs es sc ow xs
    | none => false
  | .join a b => match asMeth x with
    | some (o, y, ap, xs, ks, p) => match xs with
      | [z] => ks.isEmpty && decide (y = ("join" : Str)) && plainO o && (ap.endLine == p.line) && notStar z && chkE a sc ow o && chkE b sc ow z
      | _ => false
    | none => false
  | .fstr es => match asJoined x with
    | some xs => match xs with
      | _ :: _ :: _ => chkJ es sc ow xs
      | _ => false
    | none => false
  | .star a => chkE a sc ow x
  | .dcomp k v tg it => match asDictComp x with
    | some (kx, vx, gs, scp) => match gs with
      | [⟨tx, ix, ifs, as⟩] => decide (as = 0) && ifs.isEmpty && notSet ix && chkIt it tx sc ow ix && blkC N sc scp (ownOf N tg.slots) && chkT N scp tg tx && chkE k (relS scp sc) scp kx && chkE v (relS scp sc) scp vx
      | _ => false
    | none => false
  | .dget d k e => match asMeth x with
    | some (o, y, ap, xs, ks, p) => match xs with
      | [z, z2] => ks.isEmpty && decide (y = ("get" : Str)) && plainO o && (ap.endLine == p.line) && notStar z && notStar z2 && chkE d sc ow o && chkE k sc ow z && chkE e sc ow z2
      | _ => false
    | none => false
  | .eqI n neg a b => match asCmp x with
    | some (p, os, qs) => match os, qs with
      | [o'], [q] => decide (o' = if neg then .NotEq else .Eq) && notSet q && L.eq n && chkE a sc ow p && chkE b sc ow q
      | _, _ => false
    | none => false
  | .lenI n a => false
  | .dsp ns es => match asDict x with
    | some (ks, vs) => chkKs ns ks && (decide (ns.length = es.length) && (decide (0 < ns.length) && (decide (ns.length ≤ 15) && (decide ns.Nodup && (es.all (fun e => !isStarE e) && chkEs es sc ow vs)))))
    | none => false
  | .oget i k e => match asMeth x with
    | some (o, y, ap, xs, ks, p) => match xs with
      | [z, z2] => ks.isEmpty && decide (y = ("get" : Str)) && (ap.endLine == p.line) && notStar z && notStar z2 && nameIs N sc i o && chkE k sc ow z && chkE e sc ow z2
      | _ => false
    | none => false
  | .otup i => match asCall x with
    | some (p, xs, ks) => match xs with
      | [y] => ks.isEmpty && gnameIs sc "tuple" p && (match asMeth y with
        | some (o, n, ap, es, ks2, cp) => es.isEmpty && ks2.isEmpty && decide (n = ("items" : Str)) && (ap.endLine == cp.line) && nameIs N sc i o
        | none => false)
      | _ => false
    | none => false
def chkJ (es : List E) (sc ow : Scope) (xs : List Expr) : Bool := match es with
  | [] => match xs with | [] => true | _ => false
  | e :: es => match xs with
    | x :: xs => (match asFmt x with
      | some y => chkE e sc ow y
      | none => isLitS e && chkE e sc ow x) && chkJ es sc ow xs
    | [] => false
def chkEs (es : List E) (sc ow : Scope) (xs : List Expr) : Bool := match es with
  | [] => match xs with | [] => true | _ => false
  | e :: es => match xs with
    | x :: xs => (if isStarE e then (match asStar x with
      | some y => chkE e sc ow y
      | none => false) else notStar x && chkE e sc ow x) && chkEs es sc ow xs
    | [] => false
def chkO (o : Option E) (sc ow : Scope) (x : Option Expr) : Bool := match o with
  | none => match x with | none => true | _ => false
  | some e => match x with | some x => chkE e sc ow x | none => false
def chkF (f : FE) (sc ow : Scope) (x : Expr) : Bool := match f with
  | .lst es => match asList x with
    | some xs => decide (xs.length ≤ 1000) && es.all (fun e => !isStarE e) && chkEs es sc ow xs
    | none => false
  | .lstS es => match asList x with
    | some xs => chkEs es sc ow xs
    | none => false
  | .split a b => match asMeth x with
    | some (o, y, ap, xs, ks, p) => match xs with
      | [z] => ks.isEmpty && decide (y = ("split" : Str)) && plainO o && (ap.endLine == p.line) && notStar z && chkE a sc ow o && chkE b sc ow z
      | _ => false
    | none => false
  | .of e => match asCall x with
    | some (p, xs, ks) => match xs with
      | [y] => ks.isEmpty && gnameIs sc "list" p && notStar y && chkE e sc ow y
      | _ => false
    | none => false
  | .ofIt it => match it with
    | .rng1 b => match asCall x with
      | some (p, xs, ks) => match xs with
        | [y] => match asCall y with
          | some (p2, ys, ks2) => match ys with
            | [z] => ks.isEmpty && ks2.isEmpty && gnameIs sc "list" p && gnameIs sc "range" p2 && notStar z && chkE b sc ow z
            | _ => false
          | none => false
        | _ => false
      | none => false
    | .rng2 a b => match asCall x with
      | some (p, xs, ks) => match xs with
        | [y] => match asCall y with
          | some (p2, ys, ks2) => match ys with
            | [z, z2] => ks.isEmpty && ks2.isEmpty && gnameIs sc "list" p && gnameIs sc "range" p2 && notStar z && notStar z2 && chkE a sc ow z && chkE b sc ow z2
            | _ => false
          | none => false
        | _ => false
      | none => false
    | _ => false
  | .items i => match asCall x with
    | some (p, xs, ks) => match xs with
      | [y] => ks.isEmpty && gnameIs sc "list" p && (match asMeth y with
        | some (o, n, ap, es, ks2, cp) => es.isEmpty && ks2.isEmpty && decide (n = ("items" : Str)) && (ap.endLine == cp.line) && nameIs N sc i o
        | none => false)
      | _ => false
    | none => false
  | .rep f e => match asBin x with
    | some (p, o, q) => decide (o = .Mult) && chkF f sc ow p && chkE e sc ow q
    | none => false
  | .cat a b => match asBin x with
    | some (p, o, q) => decide (o = .Add) && chkE a sc ow p && chkE b sc ow q
    | none => false
  | .sset e => match asCall x with
    | some (p, xs, ks) => match xs with
      | [y] => match asCall y with
        | some (p2, ys, ks2) => match ys with
          | [z] => ks.isEmpty && ks2.isEmpty && gnameIs sc "sorted" p && gnameIs sc "set" p2 && notStar z && chkE e sc ow z
          | _ => false
        | none => false
      | _ => false
    | none => false
  | .comp e tg it cs => match asComp x with
    | some (ex, gs, scp) => match gs with
      | [⟨tx, ix, ifs, as⟩] => decide (as = 0) && notSet ix && chkIt it tx sc ow ix && blkC N sc scp (ownOf N tg.slots) && chkT N scp tg tx && chkC cs (relS scp sc) scp ifs && chkE e (relS scp sc) scp ex
      | _ => false
    | none => false
  | .comp2 e tg it tg2 it2 cs => false
def chkC (cs : List E) (sc ow : Scope) (xs : List Expr) : Bool := match cs with
  | [] => match xs with | [] => true | _ => false
  | c :: cs => match cs with
    | [] => match xs with
      | [x] => notIf x && chkE c sc ow x
      | _ => false
    | _ => false
def chkIt (it : It) (tx : Expr) (sc ow : Scope) (x : Expr) : Bool := match it with
  | .seq e => chkE e sc ow x
  | .rng1 b => match asCall x with
    | some (p, xs, ks) => match xs with
      | [z] => ks.isEmpty && gnameIs sc "range" p && notStar z && chkE b sc ow z
      | _ => false
    | none => false
  | .rng2 a b => match asCall x with
    | some (p, xs, ks) => match xs with
      | [z, z2] => ks.isEmpty && gnameIs sc "range" p && notStar z && notStar z2 && chkE a sc ow z && chkE b sc ow z2
      | _ => false
    | none => false
  | .enum e => match asCall x with
    | some (p, xs, ks) => match xs with
      | [z] => (asTup tx).isSome && ks.isEmpty && gnameIs sc "enumerate" p && notStar z && chkE e sc ow z
      | _ => false
    | none => false
  | .zip a b => match asCall x with
    | some (p, xs, ks) => match xs with
      | [z, z2] => (asTup tx).isSome && ks.isEmpty && gnameIs sc "zip" p && notStar z && notStar z2 && chkE a sc ow z && chkE b sc ow z2
      | _ => false
    | none => false
end
end
end Pyi
set_option Elab.async false
set_option linter.all false
set_option maxRecDepth 100000
set_option maxHeartbeats 2000000
/-! The interpreter is right: expressions. -/
namespace Pyi
open PySem PySem.Spec PyProof.Rows L2

/-- what a call of the def f promises, by the interpreter at the depth k -/
def spD (W : Wd) (U : Nat → Option Def) (k f : Nat) : Sp := fun xs H Q E => ∃ F μ h args, RSt W F μ H h ∧ RVs W F μ H args xs ∧
  Aft (callD U k f args h) (fun v h' => ∀ F' μ' H' x, RSt W F' μ' H' h' → Stp F μ H F' μ' H' → RV W F' μ' H' v x → Q x H')
    (fun c v h' => ∀ F' μ' H' d x, RSt W F' μ' H' h' → Stp F μ H F' μ' H' → H d = none → ¬ F' d → d ∉ μ' → H' d = some (.xd [("value", x)]) → RV W F' μ' H' v x → E (.ref (W.ca c)) (some d) H')
/-- what __init__ promises: the new instance stands at x, its dict at dx -/
def spI (W : Wd) (U : Nat → Option Def) (j n : Nat) (c : Nat) : Sp := fun xs H Q E => ∃ F μ h args x dx ys H0, xs = .ref x :: ys ∧ H = upd (upd H0 dx (.own x)) x (.ins (W.ca c) dx []) ∧ H0 x = none ∧ H0 dx = none ∧ dx ≠ x ∧ RSt W F μ H0 h ∧ RVs W F μ H0 args ys ∧
  Aft (callD U (j + 1) n args h) (fun v h' => ∀ F' μ' H', RSt W F' μ' H' h' → Stp F μ H0 F' μ' H' → RV W F' μ' H' v (.ref x) → Q .non H')
    (fun c v h' => ∀ F' μ' H' d x, RSt W F' μ' H' h' → Stp F μ H0 F' μ' H' → H0 d = none → ¬ F' d → d ∉ μ' → H' d = some (.xd [("value", x)]) → RV W F' μ' H' v x → E (.ref (W.ca c)) (some d) H')
def biNames : List Str := ["len", "int", "abs", "str", "repr", "tuple", "sum", "all", "any", "max", "min", "isinstance", "range", "list", "enumerate", "zip", "set", "bool", "sorted", "dict"]
/-- == of an own class -/
structure OwnEq (K : PySem.W.Frag) (C f : Addr) : Prop where
  own : OwnC K C
  eq : PySem.W.findIn K (.ref C) "__eq__" = some (some (.ref f))
  fn : PySem.W.isFn K (.ref f) = true
  ne : PySem.W.findIn K (.ref C) "__ne__" = some (some (.builtin "object.__ne__"))
/-- what the module says of a law's own names -/
structure Hyp (U : Nat → Option Def) (W : Wd) (L : Lk) (k : Nat) : Prop where
  call : ∀ f nm, L.fn f = some nm → ∃ fa fd ps, W.mg nm = some (.ref fa) ∧ PySem.W.keepIn W.K (.ref fa) = true ∧ (∀ dl ∈ L.dfl f, ∃ ds, Binds W.K fd ps ds ∧ Vals (dl.map Lit.V) ds) ∧
    ∀ j, j ≤ k → Fok W.P W.w W.K W.mg W.base j fa fd ps (spD W U j f)
  glob : ∀ x l, L.gl x = some l → ∃ u, W.mg x = some u ∧ RelV l.V u
  bi : ∀ x ∈ biNames, W.mg x = none
  prop : ∀ n x, L.pn n = some x → ∃ l, U n = some (.disp l) ∧ ∀ c g, l.lookup c = some g → ∃ fa fd ps p, Cls W.K (W.ca c) ∧ PropOf W.K (W.ca c) x p fa ∧ Binds W.K fd ps [] ∧ ∀ j, j ≤ k → Fok W.P W.w W.K W.mg W.base j fa fd ps (spD W U j g)
  meth : ∀ n x, L.mn n = some x → ∃ l, U n = some (.disp l) ∧ ∀ c g, l.lookup c = some g → ∃ fa fd ps, Cls W.K (W.ca c) ∧ Meth W.K (W.ca c) x fa ∧ (∀ dl ∈ L.dfl n, ∃ ds, Binds W.K fd ps ds ∧ Vals (dl.map Lit.V) ds) ∧ ∀ j, j ≤ k → Fok W.P W.w W.K W.mg W.base j fa fd ps (spD W U j g)
  make : ∀ n nm, L.cn n = some nm → ∃ c d fi fd ps, U n = some (.mk c d) ∧ W.mg nm = some (.ref (W.ca c)) ∧ Mk W.K (W.ca c) fi ∧ (∀ dl ∈ L.dfl n, ∃ ds, Binds W.K fd ps ds ∧ Vals (dl.map Lit.V) ds) ∧ ∀ j, j ≤ k → Fok W.P W.w W.K W.mg W.base j fi fd ps (spI W U j n c)
  noat : ∀ c x, L.na c x = true → OwnC W.K (W.ca c) ∧ NoAttr W.K (W.ca c) x
  own : ∀ c nm, L.cl c = some nm → W.mg nm = some (.ref (W.ca c)) ∧ OwnC W.K (W.ca c)
  eqs : ∀ n, L.eq n = true → ∃ l, U n = some (.disp l) ∧ ∀ c g, l.lookup c = some g → ∃ f fd ps, OwnEq W.K (W.ca c) f ∧ Binds W.K fd ps [] ∧ ∀ j, j ≤ k → Fok W.P W.w W.K W.mg W.base j f fd ps (spD W U j g)
  tupk : ∀ x ns, L.gt x = some ns → ∃ a, W.mg x = some (.ref a) ∧ ∀ H, SqT W.K H a (ns.map V.int)
/-- where the text stands -/
structure Gd (W : Wd) (k : Nat) (N : List Str) (sc ow : Scope) (X : Cx) (Z : WX) : Prop where
  eP : X.prog = W.P
  ew : X.w = W.w
  eK : X.K = W.K
  emg : X.mg = W.mg
  ebase : X.base = W.base
  eN : X.N = N
  nd : X.N.Nodup
  sc : X.env.scope = sc
  calm : X.calm = true
  st : ∀ x, locB ow x = true → Loc X.env.scope x ∧ (X.fn x = true ∨ X.env.scope.names.lookup x = some .local)
  rm : Rm k X.A
  tk : Takes X Z
structure Snd (W : Wd) (X : Cx) (Z : WX) (m : Ev Val) (x : Expr) : Prop where
  pe : PE X x (RD W Z m)
  pt : notIf x = true → PT X x (RDb W Z m)
  pw : (asBool x).isSome = true → PW X x (RDb W Z m)

section
variable {U : Nat → Option Def} {W : Wd} {L : Lk} {k : Nat} {N : List Str} {sc ow : Scope} {X : Cx} {Z : WX}
theorem Gd.units (g : Gd W k N sc ow X Z) : X.A.units + 64 < cLine := g.rm.rm.units
theorem Gd.gl (g : Gd W k N sc ow X Z) {y : Str} {x : Expr} (h : gnameIs sc y x = true) : ∃ p, x = .Name y p ∧ Gl X y ∧ (y == ("__debug__" : Str)) = false := by
  unfold gnameIs at h
  cases e : asName x with
  | none =>
    rw [e] at h
    cases h
  | some z =>
    rw [e] at h
    obtain ⟨p, rfl⟩ := asName_eq e
    obtain ⟨h1, h2⟩ := and2 h
    have h1' : z = y := of_decide_eq_true h1
    subst h1'
    obtain ⟨h3, h4⟩ := and2 (show (decide (sc.names.lookup z = some .globalImplicit) && !dbg z) = true from h2)
    have h5 : dbg z = false := by simpa using h4
    unfold dbg at h5
    obtain ⟨h6, _⟩ := Bool.or_eq_false_iff.mp h5
    refine ⟨p, rfl, ?_, ?_⟩
    · show X.env.kindOf z = some .globalImplicit
      unfold PySem.Env.kindOf
      rw [g.sc]
      exact of_decide_eq_true h3
    · exact beq_eq_false_iff_ne.mpr (of_decide_eq_false h6)
theorem Gd.vis (g : Gd W k N sc ow X Z) {i : Nat} {x : Expr} (h : nameIs N sc i x = true) : ∃ y p, x = .Name y p ∧ X.N[i]? = some y ∧ Vis X.env.scope y ∧ (y == ("__debug__" : Str)) = false ∧ (y == ("__classdict__" : Str)) = false := by
  unfold nameIs at h
  cases e : asName x with
  | none =>
    rw [e] at h
    cases h
  | some z =>
    rw [e] at h
    obtain ⟨p, rfl⟩ := asName_eq e
    obtain ⟨h1, h2⟩ := and2 h
    obtain ⟨h0, h1⟩ := and2 h1
    have h5 : dbg z = false := by simpa using h2
    unfold dbg at h5
    obtain ⟨h6, h7⟩ := Bool.or_eq_false_iff.mp h5
    refine ⟨z, p, rfl, ?_, ?_, beq_eq_false_iff_ne.mpr (of_decide_eq_false h6), beq_eq_false_iff_ne.mpr (of_decide_eq_false h7)⟩
    · rw [g.eN]
      exact of_decide_eq_true h0
    · unfold visB at h1
      rw [g.sc]
      unfold Vis
      cases hl : sc.names.lookup z with
      | none =>
        rw [hl] at h1
        cases h1
      | some kd =>
        rw [hl] at h1
        cases kd with
        | «local» => exact .inl rfl
        | cell => exact .inr (.inl rfl)
        | free => exact .inr (.inr rfl)
        | globalExplicit => cases h1
        | globalImplicit => cases h1
theorem Gd.mgN (hy : Hyp U W L k) (g : Gd W k N sc ow X Z) {x : Str} (h : x ∈ biNames) : X.mg x = none := by rw [g.emg]; exact hy.bi x h

/-! ### values by a reading -/
theorem Snd.of {m : Ev Val} {x : Expr} (h : PE X x (RD W Z m)) (ho : ownTest x = false) : Snd W X Z m x where
  pe := h
  pt := fun _ => by
    refine PT.imp (pt_val h (true_def ho)) fun σ H Q q => ?_
    obtain ⟨F, μ, env, hh, r, e, a⟩ := q
    show RD W Z m σ H fun v H1 => ∃ c, v = .bl c ∧ Q c H1
    refine rd_step r e a fun v h' F' μ' H' y r1 e1 s1 v1 a1 => ?_
    obtain ⟨b, eb, kk⟩ := aft_opt a1
    cases v with
    | bl c =>
      have ec : c = b := Option.some.inj eb
      exact ⟨b, by rw [← ec]; exact v1, kk F' μ' H' b r1 s1 rfl⟩
    | _ => cases eb
  pw := fun h => by
    cases x with
    | BoolOp _ _ _ => cases ho
    | _ => cases h
theorem rd_ret {α β : Type} {R : Hp → (Addr → Prop) → List Addr → Hp → α → β → Prop} {m : Ev α} {F : Addr → Prop} {μ : List Addr} {H : Hp} {env : Env} {σ : L2.St} {h h' : Hs} {v : α} {x : β} {Q : β → Hp → Prop}
    (r : RSt W F μ H h) (e : REnv W F μ H env σ) (em : m env h = .ok v h) (hR : R H F μ H v x) (a : Aft (m env h) (fun v h' => ∀ F' μ' H' x, RSt W F' μ' H' h' → Stp F μ H F' μ' H' → R H F' μ' H' v x → Q x H') (Exq W Z F μ H σ)) : Q x H := by
  rw [em] at a
  exact a F μ H x r Stp.refl hR
theorem lit_rv {F : Addr → Prop} {μ : List Addr} {H : Hp} (l : Lit) : RV W F μ H l.val l.V := by cases l <;> rfl
theorem pe_lit (l : Lit) {kk : Nat} {p : Pos} : PE X (.Constant l.const kk p) (tC l.V) := by
  cases l with
  | non => exact pe_non
  | bl b => exact pe_bl
  | int i => exact pe_int
  | str x => exact pe_str
theorem snd_lit (l : Lit) {x : Expr} {c : Const} (e : asConst x = some c) (ec : c = l.const) : Snd W X Z (fun _ h => .ok l.val h) x := by
  obtain ⟨kk, p, rfl⟩ := asConst_eq e
  subst ec
  refine .of (PE.imp (pe_lit l) fun σ H Q q => ?_) rfl
  obtain ⟨F, μ, env, h, r, e, a⟩ := q
  exact a F μ H _ r Stp.refl (lit_rv l)
theorem bi_boot (b : Bi) : bootBuiltins (biN b) = some (biV b) := by cases b <;> decide +kernel
theorem bi_mem (b : Bi) : biN b ∈ biNames := by cases b <;> decide +kernel
/-- a call of a built-in function or class by its name -/
theorem pe_bi {b : Bi} {r : List L2.V → Hp → VK → Prop} {e : Expr} {es : List Expr} {t : TA} {p pos : Pos} (hc : CallR X (biV b) r) (hg : Gl X (biN b)) (hm : X.mg (biN b) = none) (ha : PA X (e :: es) t) (hst : starEach (e :: es) X.env = (false, eval e X.env) :: starEach es X.env)
    (hpl : (backTo pos (starEach es X.env)).any (·.1) = false) : PE X (.Call (.Name (biN b) p) (e :: es) [] pos) (tCB r t) := by
  have hv := bi_boot b
  cases b with
  | len => exact pe_callB hc hg hm hv ha (by decide) (by decide) hst hpl
  | int_ => exact pe_callTy hc hg hm hv ha (by decide) (by decide) hst hpl
  | abs => exact pe_callB hc hg hm hv ha (by decide) (by decide) hst hpl
  | str_ => exact pe_callTy hc hg hm hv ha (by decide) (by decide) hst hpl
  | repr => exact pe_callB hc hg hm hv ha (by decide) (by decide) hst hpl
  | tuple_ => exact pe_callTy hc hg hm hv ha (by decide) (by decide) hst hpl
  | sum => exact pe_callB hc hg hm hv ha (by decide) (by decide) hst hpl
  | all_ => exact pe_callB hc hg hm hv ha (by decide) (by decide) hst hpl
  | any_ => exact pe_callB hc hg hm hv ha (by decide) (by decide) hst hpl
  | max_ => exact pe_callB hc hg hm hv ha (by decide) (by decide) hst hpl
  | min_ => exact pe_callB hc hg hm hv ha (by decide) (by decide) hst hpl

/-! ### the parts put together -/
theorem Out.assoc {α β γ : Type} {m : Out α} {f : α → Hs → Out β} {g : β → Hs → Out γ} : (m.bind f).bind g = m.bind fun x h => (f x h).bind g := by cases m <;> rfl
/-- a test whose parts are run -/
theorem rdb_step {m : Ev Val} {γ : Type} {f : Bool → Hs → Out γ} {F : Addr → Prop} {μ : List Addr} {H : Hp} {env : Env} {σ : L2.St} {h : Hs} {Q : Bool → Hp → Prop} {Good : γ → Hs → Prop} (r : RSt W F μ H h) (e : REnv W F μ H env σ)
    (q : Aft ((m env h).bind fun x h => (ofOpt (asB x) h).bind f) Good (Exq W Z F μ H σ))
    (k : ∀ b h' F' μ' H', RSt W F' μ' H' h' → REnv W F' μ' H' env σ → Stp F μ H F' μ' H' → Aft (f b h') Good (Exq W Z F' μ' H' σ) → Q b H') : RDb W Z m σ H Q := by
  rw [← Out.assoc] at q
  have st := rd_step (R := fun _ _ _ _ (b c : Bool) => b = c) (m := fun env h => (m env h).bind fun x h => ofOpt (asB x) h) (Q := Q) r e q fun b h' F' μ' H' c r1 e1 s1 hc a1 => by
    subst hc
    exact k b h' F' μ' H' r1 e1 s1 a1
  exact st
/-- a value that is a truth, as a test -/
theorem rdb_of {m : Ev Val} {f : Ev Bool} {σ : L2.St} {H : Hp} {Q : Bool → Hp → Prop} (hm : ∀ env h, m env h = (f env h).bind fun b h => .ok (.bl b) h) (q : RDb W Z m σ H Q) :
    RDg W Z (fun _ _ _ _ b c => b = c) f σ H Q := by
  obtain ⟨F, μ, env, h, r, e, a⟩ := q
  refine ⟨F, μ, env, h, r, e, ?_⟩
  have a' : Aft ((m env h).bind fun x h => ofOpt (asB x) h) (fun v h' => ∀ F' μ' H' x, RSt W F' μ' H' h' → Stp F μ H F' μ' H' → v = x → Q x H') (Exq W Z F μ H σ) := a
  rw [hm env h] at a'
  cases hf : f env h with
  | ok b h1 =>
    rw [hf] at a'
    exact a'
  | exc c v h1 =>
    rw [hf] at a'
    exact a'
  | bad =>
    rw [hf] at a'
    exact a'
theorem rd_of_b {m : Ev Val} {σ : L2.St} {H : Hp} {Q : VK} (q : RD W Z m σ H Q) (hb : ∀ env h v h', m env h = .ok v h' → ∃ b, v = .bl b) : RDb W Z m σ H fun b H1 => Q (.bl b) H1 := by
  obtain ⟨F, μ, env, h, r, e, a⟩ := q
  refine ⟨F, μ, env, h, r, e, ?_⟩
  show Aft ((m env h).bind fun x h => ofOpt (asB x) h) _ _
  cases hf : m env h with
  | ok v h1 =>
    obtain ⟨b, rfl⟩ := hb env h v h1 hf
    rw [hf] at a
    intro F' μ' H' c r1 s1 ec
    have ec' : b = c := ec
    subst ec'
    exact a F' μ' H' _ r1 s1 rfl
  | exc c v h1 =>
    rw [hf] at a
    exact a
  | bad =>
    rw [hf] at a
    exact a
theorem snd_bin {ma mb : Ev Val} {p q : Expr} (g : Gd W k N sc ow X Z) (o : BOp) (ha : Snd W X Z ma p) (hb : Snd W X Z mb q) (pos : Pos) :
    Snd W X Z (fun env h => (ma env h).bind fun x h => (mb env h).bind fun y h => ofOpt (binop o x y) h) (.BinOp p (opB o) q pos) :=
  .of (PE.imp (pe_op (op_B g.eK o) ha.pe hb.pe) fun σ H Q q => rd_two q) rfl
theorem snd_neg {ma : Ev Val} {p : Expr} (ha : Snd W X Z ma p) (pos : Pos) : Snd W X Z (fun env h => (ma env h).bind fun x h => ofOpt ((asI x).map fun i => Val.int (-i)) h) (.UnaryOp .USub p pos) := by
  refine .of (PE.imp (pe_un un_neg ha.pe) fun σ H Q q => ?_) rfl
  obtain ⟨F, μ, env, h, r, e, a⟩ := q
  show RD W Z ma σ H fun x H1 => rU (fun i => .int (-i)) x H1 Q
  refine rd_step r e a fun v h1 F' μ' H' y r1 e1 s1 v1 a1 => ?_
  obtain ⟨u, eu, kk⟩ := aft_opt a1
  cases v with
  | int i =>
    cases eu
    have ey : y = .int i := v1
    exact ⟨i, ey, kk F' μ' H' _ r1 s1 rfl⟩
  | _ => cases eu
theorem snd_not {ma : Ev Val} {p : Expr} (ha : Snd W X Z ma p) (hp : notIf p = true) (pos : Pos) :
    Snd W X Z (fun env h => (ma env h).bind fun x h => (ofOpt (asB x) h).bind fun b h => .ok (Val.bl (!b)) h) (.UnaryOp .Not p pos) := by
  refine ⟨PE.imp (pe_not ha.pe) fun σ H Q q => ?_, fun _ => PT.imp (pt_not (ha.pt hp)) fun σ H Q q => ?_, fun z => by cases z⟩
  · obtain ⟨F, μ, env, h, r, e, a⟩ := q
    show RD W Z ma σ H fun x H1 => ∃ c, x = .bl c ∧ Q (.bl (!c)) H1
    refine rd_step r e a fun v h1 F' μ' H' y r1 e1 s1 v1 a1 => ?_
    cases v with
    | bl b =>
      have ey : y = .bl b := v1
      exact ⟨b, ey, a1 F' μ' H' _ r1 s1 rfl⟩
    | _ => exact a1.elim
  · have q1 := rdb_of (f := fun env h => (ma env h).bind fun x h => (ofOpt (asB x) h).bind fun b h => .ok (!b) h) (fun env h => by
      cases ma env h with
      | ok v h1 => cases v <;> rfl
      | _ => rfl) q
    obtain ⟨F, μ, env, h, r, e, a⟩ := q1
    show RDb W Z ma σ H fun c H1 => Q (!c) H1
    exact rdb_step r e a fun b h1 F' μ' H' r1 e1 s1 a1 => a1 F' μ' H' (!b) r1 s1 rfl
/-- and, or: the interpreter's -/
def andM (ma mb : Ev Val) : Ev Val := fun env h => (ma env h).bind fun x h => (ofOpt (asB x) h).bind fun c h =>
  if c then (mb env h).bind fun y h => (ofOpt (asB y) h).bind fun d h => .ok (.bl d) h else .ok (.bl false) h
def orM (ma mb : Ev Val) : Ev Val := fun env h => (ma env h).bind fun x h => (ofOpt (asB x) h).bind fun c h =>
  if c then .ok (.bl true) h else (mb env h).bind fun y h => (ofOpt (asB y) h).bind fun d h => .ok (.bl d) h
theorem b_of {m : Ev Val} {F : Addr → Prop} {μ : List Addr} {H : Hp} {env : Env} {σ : L2.St} {h : Hs} {Q : VK} (r : RSt W F μ H h) (e : REnv W F μ H env σ)
    (a : Aft ((m env h).bind fun y h => (ofOpt (asB y) h).bind fun d h => .ok (Val.bl d) h) (fun v h' => ∀ F' μ' H' x, RSt W F' μ' H' h' → Stp F μ H F' μ' H' → RV W F' μ' H' v x → Q x H') (Exq W Z F μ H σ)) : RD W Z m σ H Q := by
  refine rd_step r e a fun v h1 F' μ' H' y r1 e1 s1 v1 a1 => ?_
  cases v with
  | bl b => exact a1 F' μ' H' y r1 s1 v1
  | _ => exact a1.elim
theorem bb_of {m : Ev Val} {F : Addr → Prop} {μ : List Addr} {H : Hp} {env : Env} {σ : L2.St} {h : Hs} {Q : Bool → Hp → Prop} (r : RSt W F μ H h) (e : REnv W F μ H env σ)
    (a : Aft ((m env h).bind fun y h => (ofOpt (asB y) h).bind fun d h => .ok d h) (fun v h' => ∀ F' μ' H' x, RSt W F' μ' H' h' → Stp F μ H F' μ' H' → v = x → Q x H') (Exq W Z F μ H σ)) : RDb W Z m σ H Q :=
  rdb_step r e a fun b h1 F' μ' H' r1 e1 s1 a1 => a1 F' μ' H' b r1 s1 rfl
theorem and_b {ma mb : Ev Val} {σ : L2.St} {H : Hp} {Q : Bool → Hp → Prop} (q : RDb W Z (andM ma mb) σ H Q) : tAnd (RDb W Z ma) (RDb W Z mb) σ H Q := by
  have q1 := rdb_of (f := fun env h => (ma env h).bind fun x h => (ofOpt (asB x) h).bind fun c h =>
      if c then (mb env h).bind fun y h => (ofOpt (asB y) h).bind fun d h => .ok d h else .ok false h) (fun env h => by
    unfold andM
    cases ma env h with
    | ok v h1 =>
      cases v with
      | bl c =>
        cases c with
        | true =>
          show (mb env h1).bind _ = ((mb env h1).bind _).bind _
          cases mb env h1 with
          | ok v h2 => cases v <;> rfl
          | _ => rfl
        | false => rfl
      | _ => rfl
    | _ => rfl) q
  obtain ⟨F, μ, env, h, r, e, a⟩ := q1
  show RDb W Z ma σ H fun c H1 => if c = true then RDb W Z mb σ H1 Q else Q false H1
  refine rdb_step r e a fun b h1 F' μ' H' r1 e1 s1 a1 => ?_
  cases b with
  | true =>
    rw [if_pos rfl] at a1 ⊢
    refine bb_of r1 e1 ?_
    cases hm : mb env h1 with
    | ok v h2 =>
      rw [hm] at a1
      cases v with
      | bl d => exact fun F2 μ2 H2 x r2 s2 ex => a1 F2 μ2 H2 x r2 (s1.trans s2) ex
      | _ => exact a1
    | exc c v h2 =>
      rw [hm] at a1
      exact a1
    | bad =>
      rw [hm] at a1
      exact a1
  | false =>
    rw [if_neg Bool.false_ne_true] at a1 ⊢
    exact a1 F' μ' H' false r1 s1 rfl
theorem or_b {ma mb : Ev Val} {σ : L2.St} {H : Hp} {Q : Bool → Hp → Prop} (q : RDb W Z (orM ma mb) σ H Q) : tOr (RDb W Z ma) (RDb W Z mb) σ H Q := by
  have q1 := rdb_of (f := fun env h => (ma env h).bind fun x h => (ofOpt (asB x) h).bind fun c h =>
      if c then .ok true h else (mb env h).bind fun y h => (ofOpt (asB y) h).bind fun d h => .ok d h) (fun env h => by
    unfold orM
    cases ma env h with
    | ok v h1 =>
      cases v with
      | bl c =>
        cases c with
        | false =>
          show (mb env h1).bind _ = ((mb env h1).bind _).bind _
          cases mb env h1 with
          | ok v h2 => cases v <;> rfl
          | _ => rfl
        | true => rfl
      | _ => rfl
    | _ => rfl) q
  obtain ⟨F, μ, env, h, r, e, a⟩ := q1
  show RDb W Z ma σ H fun c H1 => if c = true then Q true H1 else RDb W Z mb σ H1 Q
  refine rdb_step r e a fun b h1 F' μ' H' r1 e1 s1 a1 => ?_
  cases b with
  | false =>
    rw [if_neg Bool.false_ne_true] at a1 ⊢
    refine bb_of r1 e1 ?_
    cases hm : mb env h1 with
    | ok v h2 =>
      rw [hm] at a1
      cases v with
      | bl d => exact fun F2 μ2 H2 x r2 s2 ex => a1 F2 μ2 H2 x r2 (s1.trans s2) ex
      | _ => exact a1
    | exc c v h2 =>
      rw [hm] at a1
      exact a1
    | bad =>
      rw [hm] at a1
      exact a1
  | true =>
    rw [if_pos rfl] at a1 ⊢
    exact a1 F' μ' H' true r1 s1 rfl
theorem and_v {ma mb : Ev Val} {σ : L2.St} {H : Hp} {Q : VK} (q : RD W Z (andM ma mb) σ H Q) : tAndV (RD W Z ma) (RD W Z mb) σ H Q := by
  obtain ⟨F, μ, env, h, r, e, a⟩ := q
  show RD W Z ma σ H fun x H1 => ∃ c, x = .bl c ∧ if c = true then RD W Z mb σ H1 Q else Q (.bl false) H1
  refine rd_step r e a fun v h1 F' μ' H' y r1 e1 s1 v1 a1 => ?_
  cases v with
  | bl c =>
    have ey : y = .bl c := v1
    refine ⟨c, ey, ?_⟩
    cases c with
    | true =>
      rw [if_pos rfl]
      refine b_of r1 e1 ?_
      have a2 : Aft ((mb env h1).bind fun y h => (ofOpt (asB y) h).bind fun d h => .ok (Val.bl d) h) _ (Exq W Z F' μ' H' σ) := a1
      cases hm : mb env h1 with
      | ok v h2 =>
        rw [hm] at a2
        cases v with
        | bl d => exact fun F2 μ2 H2 x r2 s2 ex => a2 F2 μ2 H2 x r2 (s1.trans s2) ex
        | _ => exact a2
      | exc c v h2 =>
        rw [hm] at a2
        exact a2
      | bad =>
        rw [hm] at a2
        exact a2
    | false =>
      rw [if_neg Bool.false_ne_true]
      exact a1 F' μ' H' _ r1 s1 rfl
  | _ => exact a1.elim
theorem or_v {ma mb : Ev Val} {σ : L2.St} {H : Hp} {Q : VK} (q : RD W Z (orM ma mb) σ H Q) : tOrV (RD W Z ma) (RD W Z mb) σ H Q := by
  obtain ⟨F, μ, env, h, r, e, a⟩ := q
  show RD W Z ma σ H fun x H1 => ∃ c, x = .bl c ∧ if c = true then Q (.bl true) H1 else RD W Z mb σ H1 Q
  refine rd_step r e a fun v h1 F' μ' H' y r1 e1 s1 v1 a1 => ?_
  cases v with
  | bl c =>
    have ey : y = .bl c := v1
    refine ⟨c, ey, ?_⟩
    cases c with
    | false =>
      rw [if_neg Bool.false_ne_true]
      refine b_of r1 e1 ?_
      have a2 : Aft ((mb env h1).bind fun y h => (ofOpt (asB y) h).bind fun d h => .ok (Val.bl d) h) _ (Exq W Z F' μ' H' σ) := a1
      cases hm : mb env h1 with
      | ok v h2 =>
        rw [hm] at a2
        cases v with
        | bl d => exact fun F2 μ2 H2 x r2 s2 ex => a2 F2 μ2 H2 x r2 (s1.trans s2) ex
        | _ => exact a2
      | exc c v h2 =>
        rw [hm] at a2
        exact a2
      | bad =>
        rw [hm] at a2
        exact a2
    | true =>
      rw [if_pos rfl]
      exact a1 F' μ' H' _ r1 s1 rfl
  | _ => exact a1.elim
/-- a BoolOp of one part more -/
theorem pe_boolop {o : BoolOp} {es : List Expr} {pos : Pos} {m : Ev Val} (h : Snd W X Z m (.BoolOp o es pos)) : PE X (.BoolOp o es pos) (RD W Z m) := h.pe
theorem snd_and {ma mb : Ev Val} {p q : Expr} {r : List Expr} {pos : Pos} (ha : Snd W X Z ma p) (hp : notIf p = true)
    (hb : (r = [] ∧ notIf q = true ∧ Snd W X Z mb q) ∨ (r ≠ [] ∧ Snd W X Z mb (.BoolOp .And (q :: r) pos))) : Snd W X Z (andM ma mb) (.BoolOp .And (p :: q :: r) pos) := by
  have hpe : PE X (.BoolOp .And (q :: r) pos) (RD W Z mb) := by
    rcases hb with ⟨rfl, _, s⟩ | ⟨_, s⟩
    · exact pe_one s.pe
    · exact s.pe
  have hpw : PW X (.BoolOp .And (q :: r) pos) (RDb W Z mb) := by
    rcases hb with ⟨rfl, hq, s⟩ | ⟨_, s⟩
    · exact pw_and1 (s.pt hq)
    · exact s.pw rfl
  have w : PW X (.BoolOp .And (p :: q :: r) pos) (RDb W Z (andM ma mb)) := PW.imp (pw_and (ha.pt hp) hpw) fun σ H Q q => and_b q
  exact ⟨PE.imp (pe_and ha.pe hpe) fun σ H Q q => and_v q, fun _ => w.pt, fun _ => w⟩
theorem snd_or {ma mb : Ev Val} {p q : Expr} {r : List Expr} {pos : Pos} (ha : Snd W X Z ma p) (hp : notIf p = true)
    (hb : (r = [] ∧ notIf q = true ∧ Snd W X Z mb q) ∨ (r ≠ [] ∧ Snd W X Z mb (.BoolOp .Or (q :: r) pos))) : Snd W X Z (orM ma mb) (.BoolOp .Or (p :: q :: r) pos) := by
  have hpe : PE X (.BoolOp .Or (q :: r) pos) (RD W Z mb) := by
    rcases hb with ⟨rfl, _, s⟩ | ⟨_, s⟩
    · exact pe_one s.pe
    · exact s.pe
  have hpw : PW X (.BoolOp .Or (q :: r) pos) (RDb W Z mb) := by
    rcases hb with ⟨rfl, hq, s⟩ | ⟨_, s⟩
    · exact pw_or1 (s.pt hq)
    · exact s.pw rfl
  have w : PW X (.BoolOp .Or (p :: q :: r) pos) (RDb W Z (orM ma mb)) := PW.imp (pw_or (ha.pt hp) hpw) fun σ H Q q => or_b q
  exact ⟨PE.imp (pe_or ha.pe hpe) fun σ H Q q => or_v q, fun _ => w.pt, fun _ => w⟩
theorem snd_ite {mc ma mb : Ev Val} {p q r : Expr} (hc : Snd W X Z mc p) (hp : notIf p = true) (ha : Snd W X Z ma q) (hb : Snd W X Z mb r) (pos : Pos) :
    Snd W X Z (fun env h => (mc env h).bind fun x h => (ofOpt (asB x) h).bind fun c h => if c then ma env h else mb env h) (.IfExp p q r pos) := by
  refine ⟨PE.imp (pe_ifExp (hc.pt hp) ha.pe hb.pe) fun σ H Q q => ?_, fun z => (by cases z), fun z => by cases z⟩
  obtain ⟨F, μ, env, h, r, e, a⟩ := q
  show RDb W Z mc σ H fun c H1 => if c = true then RD W Z ma σ H1 Q else RD W Z mb σ H1 Q
  refine rdb_step r e a fun b h1 F' μ' H' r1 e1 s1 a1 => ?_
  have go : ∀ {m : Ev Val}, Aft (m env h1) (fun v h' => ∀ F' μ' H' x, RSt W F' μ' H' h' → Stp F μ H F' μ' H' → RV W F' μ' H' v x → Q x H') (Exq W Z F' μ' H' σ) → RD W Z m σ H' Q := fun {m} a => by
    refine ⟨F', μ', env, h1, r1, e1, ?_⟩
    cases hm : m env h1 with
    | ok v h2 =>
      rw [hm] at a
      exact fun F2 μ2 H2 x r2 s2 ex => a F2 μ2 H2 x r2 (s1.trans s2) ex
    | exc c v h2 =>
      rw [hm] at a
      exact a
    | bad =>
      rw [hm] at a
      exact a
  cases b with
  | true =>
    rw [if_pos rfl] at a1 ⊢
    exact go a1
  | false =>
    rw [if_neg Bool.false_ne_true] at a1 ⊢
    exact go a1
/-- a comparison: as a value and as a test -/
theorem snd_cmp {ma mb : Ev Val} {p q : Expr} (g : Gd W k N sc ow X Z) (o : COp) (ha : Snd W X Z ma p) (hb : Snd W X Z mb q) (hq : notSet q = true) (pos : Pos) :
    Snd W X Z (fun env h => (ma env h).bind fun x h => (mb env h).bind fun y h => ofOpt ((cmpop o x y).map .bl) h) (.Compare p [opC o] [q] pos) := by
  have hm : behindInMarks (opC o) q = false := mark_no hq
  refine ⟨PE.imp (pe_cmpR (op_C g.eK g.units o) ha.pe hb.pe hm) fun σ H Q q => rd_two q, fun _ => PT.imp (pt_cmpR (op_C g.eK g.units o) ha.pe hb.pe hm) fun σ H Q q => ?_, fun z => by cases z⟩
  show RD W Z ma σ H fun x H1 => RD W Z mb σ H1 fun y H2 => rC W o x y H2 fun x H' => ∃ k, x = .bl k ∧ Q k H'
  obtain ⟨F, μ, env, h, r, e, a⟩ := q
  have a' : Aft (((ma env h).bind fun x h => (mb env h).bind fun y h => ofOpt ((cmpop o x y).map Val.bl) h).bind fun x h => ofOpt (asB x) h) (fun v h' => ∀ F' μ' H' x, RSt W F' μ' H' h' → Stp F μ H F' μ' H' → v = x → Q x H') (Exq W Z F μ H σ) := a
  rw [Out.assoc] at a'
  refine rd_step r e a' fun v h1 F1 μ1 H1 x r1 e1 s1 v1 a1 => ?_
  rw [Out.assoc] at a1
  refine rd_step r1 e1 a1 fun w h2 F2 μ2 H2 y r2 e2 s2 v2 a2 => ?_
  cases h3 : cmpop o v w with
  | some b =>
    rw [h3] at a2
    refine ⟨F2, μ2, h2, v, w, .bl b, r2, RV.mono s2 v x v1, v2, (by show (cmpop o v w).map Val.bl = _; rw [h3]; rfl), fun F3 H3 z r3 s3 v3 => ⟨b, v3, a2 F3 μ2 H3 b r3 ((s1.trans s2).trans s3) rfl⟩⟩
  | none =>
    rw [h3] at a2
    exact a2.elim
end
end Pyi
set_option Elab.async false
set_option linter.all false
set_option maxRecDepth 100000
set_option maxHeartbeats 2000000
/-! The interpreter is right: more expressions. -/
namespace Pyi
open PySem PySem.Spec PyProof.Rows L2

section
variable {U : Nat → Option Def} {W : Wd} {L : Lk} {k : Nat} {N : List Str} {sc ow : Scope} {X : Cx} {Z : WX}
theorem rdb_rd {m : Ev Val} {σ : L2.St} {H : Hp} {Q : Bool → Hp → Prop} (q : RDb W Z m σ H Q) : RD W Z m σ H (fun x H' => ∃ c, x = .bl c ∧ Q c H') := by
  obtain ⟨F, μ, env, hh, r, e, a⟩ := q
  refine rd_step r e a fun v h' F' μ' H' y r1 e1 s1 v1 a1 => ?_
  obtain ⟨b, eb, kk⟩ := aft_opt a1
  cases v with
  | bl c =>
    have ec : c = b := Option.some.inj eb
    exact ⟨b, by rw [← ec]; exact v1, kk F' μ' H' b r1 s1 rfl⟩
  | _ => cases eb
def chnM (o p : COp) (ma mb mc : Ev Val) : Ev Val := fun env h => (ma env h).bind fun x h => (mb env h).bind fun y h => (ofOpt (cmpop o x y) h).bind fun t h =>
  if t then (mc env h).bind fun z h => ofOpt ((cmpop p y z).map .bl) h else .ok (.bl false) h
theorem chn_t {ma mb mc : Ev Val} {o p : COp} {σ : L2.St} {H : Hp} {Q : VK} (q : RD W Z (chnM o p ma mb mc) σ H Q) : tChain (rC W o) (rC W p) (RD W Z ma) (RD W Z mb) (RD W Z mc) σ H Q := by
  obtain ⟨F, μ, env, h, r, e, a⟩ := q
  show RD W Z ma σ H fun x H1 => RD W Z mb σ H1 fun y H2 => rC W o x y H2 fun z H3 => ∃ k, z = .bl k ∧ (if k = true then RD W Z mc σ H3 fun w' H4 => rC W p y w' H4 Q else Q (.bl false) H3)
  refine rd_step r e a fun v h1 F1 μ1 H1 x r1 e1 s1 v1 a1 => ?_
  refine rd_step r1 e1 a1 fun w h2 F2 μ2 H2 y r2 e2 s2 v2 a2 => ?_
  obtain ⟨t, et, a3⟩ : ∃ t, cmpop o v w = some t ∧ Aft (if t = true then (mc env h2).bind fun z h => ofOpt ((cmpop p w z).map Val.bl) h else .ok (Val.bl false) h2) (fun v h' => ∀ F' μ' H' x, RSt W F' μ' H' h' → Stp F μ H F' μ' H' → RV W F' μ' H' v x → Q x H') (Exq W Z F2 μ2 H2 σ) := by
    cases hc : cmpop o v w with
    | some t =>
      rw [hc] at a2
      exact ⟨t, rfl, a2⟩
    | none =>
      rw [hc] at a2
      exact a2.elim
  refine ⟨F2, μ2, h2, v, w, .bl t, r2, RV.mono s2 v x v1, v2, (by show (cmpop o v w).map Val.bl = _; rw [et]; rfl), fun F3 H3 z r3 s3 v3 => ⟨t, v3, ?_⟩⟩
  cases t with
  | false =>
    rw [if_neg Bool.false_ne_true] at a3 ⊢
    exact a3 F3 μ2 H3 _ r3 ((s1.trans s2).trans s3) rfl
  | true =>
    rw [if_pos rfl] at a3 ⊢
    refine ⟨F3, μ2, env, h2, r3, e2.mono s3, ?_⟩
    cases hm : mc env h2 with
    | ok u h4 =>
      rw [hm] at a3
      intro F4 μ4 H4 y4 r4 s4 v4
      obtain ⟨b, eb, kk⟩ := aft_opt a3
      exact ⟨F4, μ4, h4, w, u, b, r4, RV.mono (s3.trans s4) w y v2, v4, eb, fun F5 H5 z5 r5 s5 v5 => kk F5 μ4 H5 z5 r5 ((((s1.trans s2).trans s3).trans s4).trans s5) v5⟩
    | exc c u h4 =>
      rw [hm] at a3
      exact Exq.trans a3 s3
    | bad =>
      rw [hm] at a3
      exact a3
theorem snd_chn {ma mb mc : Ev Val} {p q r : Expr} (g : Gd W k N sc ow X Z) (o o2 : COp) (ha : Snd W X Z ma p) (hb : Snd W X Z mb q) (hc : Snd W X Z mc r) (hr : notSet r = true) (pos : Pos) :
    Snd W X Z (chnM o o2 ma mb mc) (.Compare p [opC o, opC o2] [q, r] pos) := by
  have hm : lastMarks [opC o, opC o2] [q, r] = false := by
    show lastMarks [opC o2] [r] = false
    exact mark_no hr
  exact ⟨PE.imp (pe_chain (op_C g.eK g.units o) (op_C g.eK g.units o2) ha.pe hb.pe hc.pe hm) fun σ H Q q => chn_t q,
    fun _ => PT.imp (pt_chain (op_C g.eK g.units o) (op_C g.eK g.units o2) ha.pe hb.pe hc.pe hm) fun σ H Q q => chn_t (rdb_rd q), fun z => by cases z⟩
/-! ### tuples, items, slices -/
theorem snd_tup {me : Ev (List Val)} {xs : List Expr} (ha : PA X xs (RDs W Z me)) (hl : ∀ env h vs h', me env h = .ok vs h' → vs.length ≤ most) (kk : Nat) (pos : Pos) :
    Snd W X Z (fun env h => (me env h).bind fun vs h => .ok (.tup vs) h) (.Tuple xs kk pos) := by
  refine .of (PE.imp (pe_tup ha) fun σ H Q q => ?_) rfl
  obtain ⟨F, μ, env, h, r, e, a⟩ := q
  dsimp only at a
  show RDs W Z me σ H fun xs H1 => xs.length ≤ sizeLine ∧ ∀ p, H1 p = none → Q (.ref p) (upd H1 p (.tup xs))
  cases hm : me env h with
  | ok vs h' =>
    have hl' := hl _ _ _ _ hm
    refine ⟨F, μ, env, h, r, e, ?_⟩
    rw [hm] at a ⊢
    intro F1 μ1 H1 ys r1 s1 v1
    refine ⟨by rw [← RVs.length v1]; exact most_line hl', fun p np => ?_⟩
    obtain ⟨r2, s2, v2⟩ := newT r1 v1 np
    exact a _ _ _ _ r2 (s1.trans s2) v2
  | exc c v h' =>
    refine ⟨F, μ, env, h, r, e, ?_⟩
    rw [hm] at a ⊢
    exact a
  | bad =>
    rw [hm] at a
    exact a.elim
/-! ### dicts with keys that are ints or texts -/
theorem key_of_flat {F : Addr → Prop} {μ : List Addr} {H : Hp} {v : Val} {y : L2.V} (hk : flatK v = true) (hv : RV W F μ H v y) : ∃ kk : L2.Key, y = kV kk ∧ v = keyV kk := by
  cases v with
  | int i => exact ⟨.inl i, hv, rfl⟩
  | str x => exact ⟨.inr x, hv, rfl⟩
  | _ => cases hk
theorem keyEq_V (a b : L2.Key) : keyEq (keyV a) (keyV b) = decide (a = b) := by
  cases a with
  | inl i => cases b with
    | inl j =>
      show (i == j) = decide (Sum.inl i = Sum.inl j)
      by_cases h : i = j <;> simp [h]
    | inr y => simp [keyV, keyEq]
  | inr x => cases b with
    | inl j => simp [keyV, keyEq]
    | inr y =>
      show (x == y) = decide (Sum.inr x = Sum.inr y)
      by_cases h : x = y
      · subst h; simp
      · have : (x == y) = false := beq_eq_false_iff_ne.mpr h
        simp [h, this]
theorem dget_rel {F : Addr → Prop} {μ : List Addr} {H : Hp} (kk : L2.Key) : ∀ {kvs : List (L2.Key × L2.V)} {vs : List Val}, RVs W F μ H vs (kvs.map (·.2)) →
    (match dget (kvs.map fun p => keyV p.1) vs (keyV kk) with
      | some v => ∃ x, valV kvs kk = some x ∧ RV W F μ H v x
      | none => valV kvs kk = none)
  | [], vs, r => by cases vs <;> exact valV_nil
  | p :: kvs, vs, r => by
    cases vs with
    | nil =>
      have e : _ = [] := r
      cases e
    | cons v vs =>
      obtain ⟨x, xr, e, h1, h2⟩ := r
      injection e with e1 e2
      show (match (if keyEq (keyV p.1) (keyV kk) then some v else dget (kvs.map fun p => keyV p.1) vs (keyV kk)) with
        | some v => ∃ x, valV (p :: kvs) kk = some x ∧ RV W F μ H v x
        | none => valV (p :: kvs) kk = none)
      rw [keyEq_V]
      by_cases hk : p.1 = kk
      · rw [decide_eq_true hk, if_pos rfl]
        exact ⟨p.2, valV_pos hk, by rw [show p.2 = x from e1]; exact h1⟩
      · rw [decide_eq_false hk, if_neg Bool.false_ne_true, valV_neg hk]
        exact dget_rel kk (by rw [e2]; exact h2)
/-- an item of a dict -/
def rIxD : R2 := fun x y H Q => ∃ a v, x = .ref a ∧ DGet H a y (some v) ∧ Q v H
theorem ix_dict (hu : X.A.units + 1 < cLine) : IxR X rIxD := by
  intro value slice pins s σ H x y v u Q I rx ry hq hs
  obtain ⟨a, w, rfl, g, q⟩ := hq
  obtain rfl : v = Value.ref a := rx
  have hT : s.TypeIs (.ref a) "dict" := dict_typeIs I g
  unfold subscriptTail
  refine wpAny_bind ?_
  rw [getitemInPython_of_ne hT.not_modules]
  refine wpAny_bind (wpAny_specialOf hT PySem.F.slot_dict_getitem.lookup ?_)
  have fin : wpAny (model X.prog X.w) X.A (subscripted slice false (.ref a) u) (fun r s₃ => wpAny (model X.prog X.w) X.A (letTemporaryGo value (.ref a) r >>= fun _ => pure r) (EP X pins σ Q) X.xe s₃) X.xe s := by
    rw [hs]
    exact wpAny_operating (d_getItem hu I g ry fun w' s3 I3 rw' => wpAny_bind (wpAny_letTemporaryGo (wpAny_pure ⟨w, H, I3, rw', q⟩)))
  first
    | exact wpAny_pure (wpAny_bind fin)
    | exact wpAny_bind (wpAny_pure (wpAny_bind fin))
    | exact wpAny_bind fin
/-- an item, also of a list that changes -/
def rGH (W : Wd) : R2 := fun x y H Q => ∃ F μ h v w u, RSt W F μ H h ∧ RV W F μ H v x ∧ RV W F μ H w y ∧ getH h v w = some u ∧
  ∀ F' H' z, RSt W F' μ H' h → Stp F μ H F' μ H' → RV W F' μ H' u z → Q z H'
theorem ix_H (hK : X.K = W.K) (hu : X.A.units + 1 < cLine) : IxR X (rGH W) := by
  intro value slice pins s σ H x y xv yv Q I rx ry hq hs
  obtain ⟨F, μ, h, v, w, u, r, hv, hw, e, k⟩ := hq
  have other : getI v w = some u → wpAny (model X.prog X.w) X.A (subscriptTail value slice xv yv) (EP X pins σ Q) X.xe s := fun e' =>
    ix_G hK value slice pins s σ H x y xv yv Q I rx ry ⟨F, μ, h, v, w, u, r, hv, hw, e', k⟩ hs
  cases v with
  | ref n =>
    cases w with
    | int i =>
      have ey : y = .int i := hw
      obtain ⟨a, em, rfl⟩ := hv
      cases ho : h[n]? with
      | none =>
        have e' : (match h[n]? with
          | some (.lst vs) => Pyi.atI vs i
          | _ => none) = some u := e
        rw [ho] at e'
        cases e'
      | some o =>
        have e' : (match h[n]? with
          | some (.lst vs) => Pyi.atI vs i
          | _ => none) = some u := e
        rw [ho] at e'
        cases o with
        | lst vs =>
          obtain ⟨ys, g, q⟩ := r.ob n _ a ho em
          obtain ⟨z, e1, r1⟩ := atI_rel q (show Pyi.atI vs i = some u from e')
          exact ix_list value slice pins s σ H _ _ xv yv Q I rx ry ⟨a, ys, i, z, rfl, ey, SqL.of g, e1, k F H z r Stp.refl r1⟩ hs
        | ins _ _ _ => cases e'
    | _ => exact other e
  | dct ks vs =>
    have e' : (if flatK w then dget ks vs w else none) = some u := e
    by_cases hf : flatK w = true
    · rw [if_pos hf] at e'
      obtain ⟨key, ey, ew⟩ := key_of_flat hf hw
      obtain ⟨a, kvs, rfl, fa, ga, ek, rv⟩ := hv
      subst ek ew
      have dr := dget_rel key rv
      rw [e'] at dr
      obtain ⟨z, ez, rz⟩ := dr
      exact ix_dict hu value slice pins s σ H _ y xv yv Q I rx ry ⟨a, z, rfl, .inl ⟨kvs, key, .inl ga, ey, ez.symm⟩, k F H z r Stp.refl rz⟩ hs
    · rw [if_neg hf] at e'
      cases e'
  | _ => exact other e
theorem snd_idx {ma mb : Ev Val} {p q : Expr} (g : Gd W k N sc ow X Z) (ha : Snd W X Z ma p) (hb : Snd W X Z mb q) (hs : notSlice q = true) (pos : Pos) :
    Snd W X Z (fun env h => (ma env h).bind fun x h => (mb env h).bind fun y h => ofOpt (getH h x y) h) (.Subscript p q pos) := by
  refine .of (PE.imp (pe_ix (ix_H g.eK (by have := g.units; omega)) ha.pe hb.pe (sub_plain hs)) fun σ H Q q => ?_) rfl
  obtain ⟨F, μ, env, h, r, e, m⟩ := q
  show RD W Z ma σ H fun x H1 => RD W Z mb σ H1 fun y H2 => rGH W x y H2 Q
  refine rd_step r e m fun v h' F1 μ1 H1 x r1 e1 s1 v1 m1 => ?_
  refine rd_step r1 e1 m1 fun w h2 F2 μ2 H2 y r2 e2 s2 v2 m2 => ?_
  obtain ⟨u, h3, k⟩ := aft_opt m2
  exact ⟨F2, μ2, h2, v, w, u, r2, RV.mono s2 v x v1, v2, h3, fun F3 H3 z r3 s3 v3 => k F3 μ2 H3 z r3 ((s1.trans s2).trans s3) v3⟩
theorem snd_slc {ma : Ev Val} {ml mh : Ev (Option Int)} {p : Expr} {lo hi : Option Expr} (g : Gd W k N sc ow X Z) (ha : Snd W X Z ma p) (hl : PO X lo (RDo W Z ml)) (hh : PO X hi (RDo W Z mh)) (pos p2 : Pos) :
    Snd W X Z (fun env h => (ma env h).bind fun x h => (ml env h).bind fun l h => (mh env h).bind fun u h => ofOpt (getS x l u) h) (.Subscript p (.Slice lo hi none p2) pos) := by
  refine .of (PE.imp (pe_slice (sl_G g.eK) ha.pe hl hh) fun σ H Q q => ?_) rfl
  obtain ⟨F, μ, env, h, r, e, m⟩ := q
  show RD W Z ma σ H fun x H1 => RDo W Z ml σ H1 fun l H2 => RDo W Z mh σ H2 fun u H3 => rGS W x l u H3 Q
  refine rd_step r e m fun v h' F1 μ1 H1 x r1 e1 s1 v1 m1 => ?_
  refine rd_step r1 e1 m1 fun w h2 F2 μ2 H2 y r2 e2 s2 v2 m2 => ?_
  refine rd_step r2 e2 m2 fun w' h3 F3 μ3 H3 y' r3 e3 s3 v3 m3 => ?_
  subst v2 v3
  obtain ⟨u, h4, k⟩ := aft_opt m3
  exact ⟨F3, μ3, h3, v, u, r3, RV.mono (s2.trans s3) v x v1, h4, fun F4 H4 z r4 s4 v4 => k F4 μ3 H4 z r4 (((s1.trans s2).trans s3).trans s4) v4⟩
theorem snd_po0 : PO X none (RDo W Z fun _ h => .ok none h) := PO.imp po_none fun σ H Q q => by
  obtain ⟨F, μ, env, h, r, e, a⟩ := q
  exact a F μ H none r Stp.refl rfl
theorem snd_po1 {m : Ev Val} {x : Expr} (h : Snd W X Z m x) : PO X (some x) (RDo W Z fun env h => (m env h).bind fun x h => (ofOpt (asI x) h).bind fun i h => .ok (some i) h) := PO.imp (po_some h.pe) fun σ H Q q => by
  obtain ⟨F, μ, env, h, r, e, a⟩ := q
  show RD W Z m σ H fun x H1 => ∃ i, x = .int i ∧ Q (some i) H1
  refine rd_step r e a fun v h' F' μ' H' y r1 e1 s1 v1 a1 => ?_
  cases v with
  | int i => exact ⟨i, v1, a1 F' μ' H' _ r1 s1 rfl⟩
  | _ => exact a1.elim
/-! ### argument lists -/
theorem snd_pa0 : PA X [] (RDs W Z fun _ h => .ok [] h) := PA.imp pa_nil fun σ H Q q => by
  obtain ⟨F, μ, env, h, r, e, a⟩ := q
  exact a F μ H [] r Stp.refl rfl
theorem snd_pa1 {m : Ev Val} {ms : Ev (List Val)} {x : Expr} {xs : List Expr} (h : Snd W X Z m x) (hs : PA X xs (RDs W Z ms)) (hn : notStar x = true) :
    PA X (x :: xs) (RDs W Z fun env h => (m env h).bind fun x h => (ms env h).bind fun r h => .ok (x :: r) h) := PA.imp (pa_cons h.pe hs (star_cons hn)) fun σ H Q q => by
  obtain ⟨F, μ, env, h, r, e, a⟩ := q
  show RD W Z m σ H fun x H1 => RDs W Z ms σ H1 fun xs H2 => Q (x :: xs) H2
  refine rd_step r e a fun v h1 F1 μ1 H1 x r1 e1 s1 v1 a1 => ?_
  refine rd_step r1 e1 a1 fun w h2 F2 μ2 H2 y r2 e2 s2 v2 a2 => ?_
  exact a2 F2 μ2 H2 _ r2 (s1.trans s2) ⟨x, y, rfl, RV.mono s2 v x v1, v2⟩
theorem lits_rv {F : Addr → Prop} {μ : List Addr} {H : Hp} : ∀ ds : List Lit, RVs W F μ H (ds.map Lit.val) (ds.map Lit.V)
  | [] => rfl
  | d :: ds => ⟨_, _, rfl, lit_rv d, lits_rv ds⟩
theorem snd_call {ms : Ev (List Val)} {xs : List Expr} {f : Nat} {nm : Str} {ds : List Lit} {y : Expr} (hy : Hyp U W L k) (g : Gd W k N sc ow X Z) (hf : L.fn f = some nm) (hg : gnameIs sc nm y = true) (hd : ds ∈ L.dfl f) (hx : xs.all notStar = true)
    (ha : PA X xs (RDs W Z ms)) (h0 : xs = [] → ∀ env h vs h', ms env h = .ok vs h' → vs = [] ∧ h' = h) (hb : xs = [] → ∀ env h, ∃ vs h', ms env h = .ok vs h') (pos : Pos) :
    Snd W X Z (fun env h => (ms env h).bind fun vs h => callD U k f (vs ++ ds.map Lit.val) h) (.Call y xs [] pos) := by
  obtain ⟨p, rfl, hgl, hdb⟩ := g.gl hg
  obtain ⟨fa, fd, ps, hm, hk, hbs, F⟩ := hy.call f nm hf
  obtain ⟨dvs, b, hv⟩ := hbs ds hd
  have F' : Fok X.prog X.w X.K X.mg X.base k fa fd ps (spD W U k f) := by rw [g.eP, g.ew, g.eK, g.emg, g.ebase]; exact F k (Nat.le_refl k)
  have hm' : X.mg nm = some (.ref fa) := by rw [g.emg]; exact hm
  have hk' : PySem.W.keepIn X.K (.ref fa) = true := by rw [g.eK]; exact hk
  have b' : Binds X.K fd ps dvs := by rw [g.eK]; exact b
  refine .of ?_ rfl
  cases xs with
  | nil =>
    refine PE.imp (fok_call0 F' g.rm hgl hm' hk' b' hv g.tk hdb) fun σ H Q q => ?_
    obtain ⟨F, μ, env, h, r, e, a⟩ := q
    obtain ⟨vs, h', em⟩ := hb rfl env h
    obtain ⟨ev, eh⟩ := h0 rfl env h vs h' em
    subst ev eh
    dsimp only at a
    rw [em] at a
    refine ⟨F, μ, h', ds.map Lit.val, r, lits_rv ds, ?_⟩
    have a' : Aft (callD U k f (ds.map Lit.val) h') _ _ := a
    exact a'
  | cons x xs =>
    obtain ⟨n1, n2⟩ := and2 (show (notStar x && xs.all notStar) = true from hx)
    refine PE.imp (fok_call F' g.rm hgl hm' hk' b' hv g.tk ha hdb (star_cons n1) (star_plain n2)) fun σ H Q q => ?_
    obtain ⟨F, μ, env, h, r, e, a⟩ := q
    refine rd_step r e a fun vs h1 F1 μ1 H1 ys r1 e1 s1 v1 a1 => ?_
    refine ⟨F1, μ1, h1, vs ++ ds.map Lit.val, r1, RVs.append v1 (lits_rv ds), ?_⟩
    cases hc : callD U k f (vs ++ ds.map Lit.val) h1 with
    | ok v h2 =>
      rw [hc] at a1
      exact fun F2 μ2 H2 x r2 s2 v2 => a1 F2 μ2 H2 x r2 (s1.trans s2) v2
    | exc c v h2 =>
      rw [hc] at a1
      exact a1
    | bad =>
      rw [hc] at a1
      exact a1
theorem snd_bi {ms : Ev (List Val)} {xs : List Expr} {b : Bi} {y : Expr} (hy : Hyp U W L k) (g : Gd W k N sc ow X Z) (hg : gnameIs sc (biN b) y = true) (hne : (!xs.isEmpty) = true) (hx : xs.all notStar = true)
    (ha : PA X xs (RDs W Z ms)) (pos : Pos) : Snd W X Z (fun env h => (ms env h).bind fun vs h => ofOpt (bicall b vs) h) (.Call y xs [] pos) := by
  obtain ⟨p, rfl, hgl, hdb⟩ := g.gl hg
  cases xs with
  | nil => cases hne
  | cons x xs =>
    obtain ⟨n1, n2⟩ := and2 (show (notStar x && xs.all notStar) = true from hx)
    exact .of (PE.imp (pe_bi (bi_G g.eK g.calm g.rm.gd g.units b) hgl (g.mgN hy (bi_mem b)) ha (star_cons n1) (star_plain n2)) fun σ H Q q => rd_many q) rfl
theorem ty_boot {t : Ty} (h : isBuiltTy t = true) : bootBuiltins (tyN t) = some (.type (tyName t)) ∧ tyN t ∈ biNames ∧ tyN t ≠ ("__name__" : Str) := by
  cases t with
  | own c => cases h
  | _ => decide +kernel
theorem snd_isi {ma : Ev Val} {a y z : Expr} {t : Ty} (hy : Hyp U W L k) (g : Gd W k N sc ow X Z) (hg : gnameIs sc "isinstance" y = true) (ht : isBuiltTy t = true) (hz : gnameIs sc (tyN t) z = true) (hn : notStar a = true) (ha : Snd W X Z ma a) (pos : Pos) :
    Snd W X Z (fun env h => (ma env h).bind fun x h => ofOpt ((isiOf x t).map .bl) h) (.Call y [a, z] [] pos) := by
  obtain ⟨p, rfl, hgl, hdb⟩ := g.gl hg
  obtain ⟨p2, rfl, hgl2, hdb2⟩ := g.gl hz
  obtain ⟨b1, b2, b3⟩ := ty_boot ht
  have hpe : PE X (.Name (tyN t) p2) (tC (.ty (tyName t))) := pe_bltn hgl2 (g.mgN hy b2) b1 rfl b3 hdb2
  refine .of (PE.imp (pe_callB call_isi hgl (g.mgN hy (by decide +kernel)) (by decide +kernel) (pa_cons ha.pe (pa_cons hpe pa_nil (star_cons rfl)) (star_cons hn)) (by decide) hdb (star_cons hn) (star_plain rfl)) fun σ H Q q => ?_) rfl
  obtain ⟨F, μ, env, h, r, e, m⟩ := q
  show RD W Z ma σ H fun x H1 => rIsi X.K [x, .ty (tyName t)] H1 Q
  refine rd_step r e m fun v h' F1 μ1 H1 x r1 e1 s1 v1 m1 => ?_
  cases hi : isiOf v t with
  | none =>
    rw [hi] at m1
    exact m1.elim
  | some b =>
    rw [hi] at m1
    obtain ⟨T, q1, q2⟩ := isi_G v1 (fun c z => by rw [z] at ht; cases ht) hi
    exact ⟨x, .ty (tyName t), .type T, .type (tyName t), b, rfl, .ty _, by rw [g.eK]; exact q1, by rw [g.eK]; exact q2, m1 F1 μ1 H1 _ r1 s1 rfl⟩
/-! ### lists just made -/
theorem snd_fr {m : Ev (List Val)} {x : Expr} (h : PE X x (RDf W Z m)) (ho : ownTest x = false) : Snd W X Z (fun env h => (m env h).bind fun vs h => .ok (.lst vs) h) x := .of (PE.imp h fun σ H Q q => rd_freeze q) ho
theorem snd_mk {m : Ev (List Val)} {x : Expr} (h : PE X x (RDf W Z m)) (ho : ownTest x = false) : Snd W X Z (fun env h => (m env h).bind fun vs h => .ok (.ref h.length) (h ++ [.lst vs])) x := .of (PE.imp h fun σ H Q q => rd_mk q) ho
/-- a list just laid -/
theorem newL {F : Addr → Prop} {μ : List Addr} {H0 H : Hp} {h : Hs} {vs : List Val} {xs : List L2.V} {p : Addr} (r : RSt W F μ H h) (q : RVs W F μ H vs xs) (n : H p = none) (n0 : H0 p = none) :
    RSt W F μ (upd H p (.lst xs)) h ∧ Stp F μ H F μ (upd H p (.lst xs)) ∧ Fresh W H0 F μ (upd H p (.lst xs)) vs (.ref p) :=
  ⟨r.fresh n, Stp.fresh n (r.notF n), p, xs, rfl, n0, r.notF n, r.notM n, upd_same, RVs.out (r.notF n) vs xs q⟩
theorem none_back {F F' : Addr → Prop} {μ μ' : List Addr} {H H' : Hp} (s : Stp F μ H F' μ' H') {p : Addr} (n : H' p = none) : H p = none := by
  cases hd : H p with
  | none => rfl
  | some o => exact absurd n (s.lv p (by rw [hd]; exact fun z => by cases z))
theorem snd_lst {me : Ev (List Val)} {xs : List Expr} (ha : PA X xs (RDs W Z me)) (hl : ∀ env h vs h', me env h = .ok vs h' → vs.length ≤ most) (pos : Pos) : PE X (.List xs pos) (RDf W Z me) := by
  refine PE.imp (pe_lst ha) fun σ H Q q => ?_
  obtain ⟨F, μ, env, h, r, e, a⟩ := q
  show RDs W Z me σ H fun xs H1 => xs.length ≤ sizeLine ∧ ∀ p, H1 p = none → Q (.ref p) (upd H1 p (.lst xs))
  cases hm : me env h with
  | ok vs h' =>
    have hl' := hl _ _ _ _ hm
    refine ⟨F, μ, env, h, r, e, ?_⟩
    rw [hm] at a ⊢
    intro F1 μ1 H1 ys r1 s1 v1
    refine ⟨by rw [← RVs.length v1]; exact most_line hl', fun p np => ?_⟩
    obtain ⟨r2, s2, v2⟩ := newL r1 v1 np (none_back s1 np)
    exact a _ _ _ _ r2 (s1.trans s2) v2
  | exc c v h' =>
    refine ⟨F, μ, env, h, r, e, ?_⟩
    rw [hm] at a ⊢
    exact a
  | bad =>
    rw [hm] at a
    exact a.elim
theorem boot_L : bootBuiltins "list" = some (.type "list") := by decide +kernel
theorem snd_of {ma : Ev Val} {x y : Expr} (hy : Hyp U W L k) (g : Gd W k N sc ow X Z) (hg : gnameIs sc "list" y = true) (hn : notStar x = true) (ha : Snd W X Z ma x) (pos : Pos) :
    PE X (.Call y [x] [] pos) (RDf W Z fun env h => (ma env h).bind fun x h => ofOpt (itemsOf x) h) := by
  obtain ⟨p, rfl, hgl, hdb⟩ := g.gl hg
  refine PE.imp (pe_callTy call_list_of hgl (g.mgN hy (by decide +kernel)) boot_L (pa_cons ha.pe pa_nil (star_cons hn)) (by decide) hdb (star_cons hn) (star_plain rfl)) fun σ H Q q => ?_
  obtain ⟨F, μ, env, h, r, e, m⟩ := q
  show RD W Z ma σ H fun x H1 => ∃ p ys, [x] = [.ref p] ∧ (SqL X.K H1 p ys ∨ SqT X.K H1 p ys) ∧ ∀ l, H1 l = none → Q (.ref l) (upd H1 l (.lst ys))
  refine rd_step r e m fun v h' F1 μ1 H1 x r1 e1 s1 v1 m1 => ?_
  obtain ⟨vs, ev, kk⟩ := aft_opt m1
  cases v with
  | tup ws =>
    obtain ⟨a, ys, rfl, t, q1, _, _⟩ := seqT v1
    cases ev
    refine ⟨a, ys, rfl, .inr (by rw [g.eK]; exact t), fun l nl => ?_⟩
    obtain ⟨r2, s2, v2⟩ := newL r1 q1 nl (none_back s1 nl)
    exact kk _ _ _ _ r2 (s1.trans s2) v2
  | lst ws =>
    obtain ⟨a, ys, rfl, t, q1, _, _⟩ := seqL v1
    cases ev
    refine ⟨a, ys, rfl, .inl (by rw [g.eK]; exact t), fun l nl => ?_⟩
    obtain ⟨r2, s2, v2⟩ := newL r1 q1 nl (none_back s1 nl)
    exact kk _ _ _ _ r2 (s1.trans s2) v2
  | _ => cases ev
theorem rng_rvs {F : Addr → Prop} {μ : List Addr} {H : Hp} (n : Nat) (lo : Int) : RVs W F μ H (rngV lo n) ((List.range n).map fun i => V.int (lo + (i : Nat))) := by
  induction n generalizing lo with
  | zero => rfl
  | succ n ih =>
    refine ⟨.int lo, (List.range n).map fun i => V.int (lo + 1 + (i : Nat)), ?_, rfl, ih (lo + 1)⟩
    rw [List.range_succ_eq_map, List.map_cons, List.map_map]
    congr 1
    · simp
    · refine List.map_congr_left fun i _ => ?_
      show V.int (lo + ((i + 1 : Nat) : Int)) = V.int (lo + 1 + (i : Nat))
      congr 1
      omega
theorem rgOk_of {j : Int} (h : rgOk j = true) : -(2 ^ 62) ≤ j ∧ j < 2 ^ 62 := by
  obtain ⟨a, b⟩ := and2 h
  exact ⟨of_decide_eq_true a, of_decide_eq_true b⟩
def rng1M (mb : Ev Val) : Ev (List Val) := fun env h => (mb env h).bind fun x h => (ofOpt (asI x) h).bind fun j h => if rgOk j then .ok (rngV 0 j.toNat) h else .bad
def rng2M (ma mb : Ev Val) : Ev (List Val) := fun env h => (ma env h).bind fun x h => (mb env h).bind fun y h => (ofOpt (asI x) h).bind fun i h => (ofOpt (asI y) h).bind fun j h =>
  if rgOk i && rgOk j then .ok (rngV i (j - i).toNat) h else .bad
theorem snd_lrng1 {mb : Ev Val} {x y z : Expr} (hy : Hyp U W L k) (g : Gd W k N sc ow X Z) (hg : gnameIs sc "list" y = true) (hg2 : gnameIs sc "range" z = true) (hn : notStar x = true) (hb : Snd W X Z mb x) (pos pos2 : Pos) :
    PE X (.Call y [.Call z [x] [] pos2] [] pos) (RDf W Z fun env h => (rng1M mb env h).bind fun xs h => if decide (xs.length ≤ most) then .ok xs h else .bad) := by
  obtain ⟨p, rfl, hgl, _⟩ := g.gl hg
  obtain ⟨p2, rfl, hgl2, _⟩ := g.gl hg2
  refine PE.imp (pe_listRg g.calm hgl (g.mgN hy (by decide +kernel)) (prg_1 hgl2 (g.mgN hy (by decide +kernel)) hb.pe (star_cons hn)) (star_cons rfl)) fun σ H Q q => ?_
  obtain ⟨F, μ, env, h, r, e, m⟩ := q
  show RD W Z mb σ H fun x H1 => ∃ n, x = .int n ∧ (RgOk 0 n ∧ ∀ q, H1 q = none → Q (.ref q) (upd H1 q (.lst (rgV 0 n))))
  unfold rng1M at m
  dsimp only at m
  rw [Out.assoc] at m
  refine rd_step r e m fun v h1 F1 μ1 H1 x r1 e1 s1 v1 m1 => ?_
  cases v with
  | int j =>
    have m2 : Aft ((if rgOk j = true then Out.ok (rngV 0 j.toNat) h1 else .bad).bind fun xs h => if decide (xs.length ≤ most) then Out.ok xs h else .bad) _ _ := m1
    by_cases hj : rgOk j = true
    · rw [if_pos hj] at m2
      have m3 : Aft (if decide ((rngV 0 j.toNat).length ≤ most) = true then Out.ok (rngV 0 j.toNat) h1 else .bad) _ _ := m2
      by_cases hl : decide ((rngV 0 j.toNat).length ≤ most) = true
      · rw [if_pos hl] at m3
        have hl' := of_decide_eq_true hl
        rw [rngV_len] at hl'
        obtain ⟨b1, b2⟩ := rgOk_of hj
        refine ⟨j, v1, ⟨by decide, by decide, b1, b2, ?_⟩, fun l nl => ?_⟩
        · rw [Int.sub_zero]
          exact Nat.le_trans hl' (by decide)
        · have rr : RVs W F1 μ1 H1 (rngV 0 j.toNat) (rgV 0 j) := by
            have := rng_rvs (W := W) (F := F1) (μ := μ1) (H := H1) j.toNat 0
            unfold rgV
            rw [Int.sub_zero]
            exact this
          obtain ⟨r2, s2, v2⟩ := newL r1 rr nl (none_back s1 nl)
          exact m3 _ _ _ _ r2 (s1.trans s2) v2
      · rw [if_neg hl] at m3
        exact m3.elim
    · rw [if_neg hj] at m2
      exact m2.elim
  | _ => exact m1.elim
theorem snd_lrng2 {ma mb : Ev Val} {x x2 y z : Expr} (hy : Hyp U W L k) (g : Gd W k N sc ow X Z) (hg : gnameIs sc "list" y = true) (hg2 : gnameIs sc "range" z = true) (hn : notStar x = true) (hn2 : notStar x2 = true) (ha : Snd W X Z ma x) (hb : Snd W X Z mb x2) (pos pos2 : Pos) :
    PE X (.Call y [.Call z [x, x2] [] pos2] [] pos) (RDf W Z fun env h => (rng2M ma mb env h).bind fun xs h => if decide (xs.length ≤ most) then .ok xs h else .bad) := by
  obtain ⟨p, rfl, hgl, _⟩ := g.gl hg
  obtain ⟨p2, rfl, hgl2, _⟩ := g.gl hg2
  refine PE.imp (pe_listRg g.calm hgl (g.mgN hy (by decide +kernel)) (prg_2 hgl2 (g.mgN hy (by decide +kernel)) ha.pe hb.pe (star_cons hn) (star_cons hn2) (by rw [star_cons hn2]; rfl)) (star_cons rfl)) fun σ H Q q => ?_
  obtain ⟨F, μ, env, h, r, e, m⟩ := q
  show RD W Z ma σ H fun x H1 => RD W Z mb σ H1 fun y H2 => ∃ i j, x = .int i ∧ y = .int j ∧ (RgOk i j ∧ ∀ q, H2 q = none → Q (.ref q) (upd H2 q (.lst (rgV i j))))
  unfold rng2M at m
  dsimp only at m
  rw [Out.assoc] at m
  refine rd_step r e m fun v h1 F1 μ1 H1 x r1 e1 s1 v1 m1 => ?_
  rw [Out.assoc] at m1
  refine rd_step r1 e1 m1 fun w h2 F2 μ2 H2 y r2 e2 s2 v2 m2 => ?_
  cases v with
  | int i =>
    cases w with
    | int j =>
      have m3 : Aft ((if (rgOk i && rgOk j) = true then Out.ok (rngV i (j - i).toNat) h2 else .bad).bind fun xs h => if decide (xs.length ≤ most) then Out.ok xs h else .bad) _ _ := m2
      by_cases hj : (rgOk i && rgOk j) = true
      · rw [if_pos hj] at m3
        have m4 : Aft (if decide ((rngV i (j - i).toNat).length ≤ most) = true then Out.ok (rngV i (j - i).toNat) h2 else .bad) _ _ := m3
        by_cases hl : decide ((rngV i (j - i).toNat).length ≤ most) = true
        · rw [if_pos hl] at m4
          have hl' := of_decide_eq_true hl
          rw [rngV_len] at hl'
          obtain ⟨b1, b2⟩ := and2 hj
          obtain ⟨b1, b3⟩ := rgOk_of b1
          obtain ⟨b2, b4⟩ := rgOk_of b2
          refine ⟨i, j, v1, v2, ⟨b1, b3, b2, b4, Nat.le_trans hl' (by decide)⟩, fun l nl => ?_⟩
          obtain ⟨r3, s3, v3⟩ := newL r2 (rng_rvs (j - i).toNat i) nl (none_back (s1.trans s2) nl)
          exact m4 _ _ _ _ r3 ((s1.trans s2).trans s3) v3
        · rw [if_neg hl] at m4
          exact m4.elim
      · rw [if_neg hj] at m3
        exact m3.elim
    | _ => exact m2.elim
  | _ => exact m2.elim
def catM (ma mb : Ev Val) : Ev (List Val) := fun env h => (ma env h).bind fun x h => (mb env h).bind fun y h => match x, y with
  | .lst xs, .lst ys => if xs.length + ys.length ≤ most then .ok (xs ++ ys) h else .bad
  | _, _ => .bad
theorem snd_cat {ma mb : Ev Val} {p q : Expr} (ha : Snd W X Z ma p) (hb : Snd W X Z mb q) (pos : Pos) : PE X (.BinOp p .Add q pos) (RDf W Z (catM ma mb)) := by
  refine PE.imp (pe_op op_cat ha.pe hb.pe) fun σ H Q q => ?_
  obtain ⟨F, μ, env, h, r, e, m⟩ := q
  show RD W Z ma σ H fun x H1 => RD W Z mb σ H1 fun y H2 => rCat x y H2 Q
  refine rd_step r e m fun v h1 F1 μ1 H1 x r1 e1 s1 v1 m1 => ?_
  refine rd_step r1 e1 m1 fun w h2 F2 μ2 H2 y r2 e2 s2 v2 m2 => ?_
  cases v with
  | lst xs =>
    cases w with
    | lst ys =>
      have m3 : Aft (if xs.length + ys.length ≤ most then Out.ok (xs ++ ys) h2 else .bad) _ _ := m2
      by_cases hl : xs.length + ys.length ≤ most
      · rw [if_pos hl] at m3
        obtain ⟨a, as, rfl, _, q1, _, g1⟩ := seqL (RV.mono s2 _ _ v1)
        obtain ⟨b, bs, rfl, _, q2, _, g2⟩ := seqL v2
        refine ⟨a, b, as, bs, rfl, rfl, g1, g2, by rw [← RVs.length q1, ← RVs.length q2]; exact most_line hl, fun l nl => ?_⟩
        obtain ⟨r3, s3, v3⟩ := newL r2 (RVs.append q1 q2) nl (none_back (s1.trans s2) nl)
        exact m3 _ _ _ _ r3 ((s1.trans s2).trans s3) v3
      · rw [if_neg hl] at m3
        exact m3.elim
    | _ => exact m2.elim
  | _ => exact m2.elim
def repM (mf : Ev (List Val)) (me : Ev Val) : Ev (List Val) := fun env h => (mf env h).bind fun vs h => (me env h).bind fun y h => (ofOpt (asI y) h).bind fun k h =>
  if decide (0 ≤ k) && (decide (k < 2 ^ 62) && decide (vs.length * k.toNat ≤ most)) then .ok (List.replicate k.toNat vs).flatten h else .bad
theorem snd_rep {mf : Ev (List Val)} {me : Ev Val} {p q : Expr} (hf : PE X p (RDf W Z mf)) (he : Snd W X Z me q) (pos : Pos) : PE X (.BinOp p .Mult q pos) (RDf W Z (repM mf me)) := by
  refine PE.imp (pe_op op_rep hf he.pe) fun σ H Q q => ?_
  obtain ⟨F, μ, env, h, r, e, m⟩ := q
  show RDf W Z mf σ H fun x H1 => RD W Z me σ H1 fun y H2 => rRep x y H2 Q
  refine rd_step r e m fun vs h1 F1 μ1 H1 x r1 e1 s1 v1 m1 => ?_
  refine rd_step r1 e1 m1 fun w h2 F2 μ2 H2 y r2 e2 s2 v2 m2 => ?_
  obtain ⟨a, xs, rfl, n0, nf, nm, g, rv⟩ := v1
  have g2 := s2.keep a _ g nm
  have rv2 := RVs.mono s2 _ _ rv
  cases w with
  | int k =>
    have v2 : y = .int k := v2
    subst v2
    have m3 : Aft (if decide (0 ≤ k) && (decide (k < 2 ^ 62) && decide (vs.length * k.toNat ≤ most)) then Out.ok (List.replicate k.toNat vs).flatten h2 else .bad) _ _ := m2
    by_cases hc : (decide (0 ≤ k) && (decide (k < 2 ^ 62) && decide (vs.length * k.toNat ≤ most))) = true
    · rw [if_pos hc] at m3
      rw [Bool.and_eq_true, Bool.and_eq_true, decide_eq_true_eq, decide_eq_true_eq, decide_eq_true_eq] at hc
      obtain ⟨c1, c2, c3⟩ := hc
      refine ⟨a, k, xs, rfl, rfl, g2, by omega, by omega, by rw [← RVs.length rv2]; exact most_line c3, fun l nl => ?_⟩
      obtain ⟨r3, s3, v3⟩ := newL r2 (RVs.rep rv2 k.toNat) nl (none_back (s1.trans s2) nl)
      exact m3 _ _ _ _ r3 ((s1.trans s2).trans s3) v3
    · rw [if_neg hc] at m3
      exact m3.elim
  | _ => exact m2.elim
/-! ### tests of a comprehension, walks -/
theorem snd_c0 : PTs X [] (RDg W Z (fun _ _ _ _ b c => b = c) (fun _ h => .ok true h)) := by
  refine ⟨fun pins s σ H Q I q => pts_nil.run pins s σ H Q I ?_⟩
  obtain ⟨F, μ, env, h, r, e, a⟩ := q
  exact a F μ H true r Stp.refl rfl
theorem snd_c1 {m : Ev Val} {x : Expr} (h : Snd W X Z m x) (hn : notIf x = true) : PTs X [x] (RDg W Z (fun _ _ _ _ b c => b = c) (fun env h => (m env h).bind fun x h => (ofOpt (asB x) h).bind fun b h => if b then .ok true h else .ok false h)) := by
  refine ⟨fun pins s σ H Q I q => (pts_one (h.pt hn)).run pins s σ H Q I ?_⟩
  obtain ⟨F, μ, env, h, r, e, a⟩ := q
  refine rdb_step r e a fun b h1 F' μ' H' r1 e1 s1 a1 => ?_
  cases b with
  | true => exact a1 F' μ' H' true r1 s1 rfl
  | false => exact a1 F' μ' H' false r1 s1 rfl
/-- a walk over what is a list or a tuple -/
theorem pi_seq {tg l : Expr} {tl : TE} (hl : PE X l tl) : PI X tg l (fun σ H R => tl σ H fun x H1 => ∃ a, x = .ref a ∧ ((∃ xs, SqL X.K H1 a xs) ∧ R (Itl X.K a) H1 ∨ (∃ xs, SqT X.K H1 a xs) ∧ R (Itt X.K a) H1)) := by
  refine ⟨fun pins s σ H R I h => thn (hl.run pins s σ H _ I h) ?_⟩
  rintro v s1 ⟨x, H1, I1, rx, a, e, hq⟩
  subst e
  cases rx
  have new : ∀ b ∈ [s1.heap.objs.size], FpOk X pins H1 b := fun b hb => by
    have e : b = s1.heap.objs.size := by simpa using hb
    subst e
    exact I1.fpOk (Nat.le_refl _) (I1.hok.fresh (Nat.le_refl _))
  rcases hq with ⟨⟨xs, hq⟩, q⟩ | ⟨⟨xs, hq⟩, q⟩
  · obtain ⟨its, _, p, _⟩ := I1.list hq
    exact wpAny_pyIter_list p.isList ⟨s1.heap.objs.size, [s1.heap.objs.size], _, _, H1, rfl, I1.kept (t' := s1.toks) fun b o e => Heap.get?_push_of_some _ e, turn_list a _, ⟨_, Heap.get?_push_size _ rfl, rfl, rfl⟩, new, q⟩
  · obtain ⟨its, _, p, _⟩ := I1.tuple hq
    exact wpAny_pyIter_tuple (show s1.heap.IsTuple a its.toArray from p) ⟨s1.heap.objs.size, [s1.heap.objs.size], _, _, H1, rfl, I1.kept (t' := s1.toks) fun b o e => Heap.get?_push_of_some _ e, turn_tuple a _, ⟨_, Heap.get?_push_size _ rfl, rfl, rfl⟩, new, q⟩
theorem snd_iseq0 {m : Ev Val} {tg x : Expr} (g : Gd W k N sc ow X Z) (h : Snd W X Z m x) : PI X tg x (RDi W Z fun env h => (m env h).bind fun x h => ofOpt (itemsOf x) h) := by
  refine ⟨fun pins s σ H R I q => (pi_seq h.pe).run pins s σ H R I ?_⟩
  obtain ⟨F, μ, env, h, r, e, a⟩ := q
  refine rd_step r e a fun v h1 F1 μ1 H1 x r1 e1 s1 v1 a1 => ?_
  obtain ⟨xs, ex, kk⟩ := aft_opt a1
  obtain ⟨b, eb, w⟩ := walk_seq v1 ex
  refine ⟨b, eb, ?_⟩
  rw [g.eK]
  rcases w with ⟨w1, w2⟩ | ⟨w1, w2⟩
  · exact .inl ⟨w1, kk F1 μ1 H1 _ r1 s1 w2⟩
  · exact .inr ⟨w1, kk F1 μ1 H1 _ r1 s1 w2⟩
theorem snd_irng1 {mb : Ev Val} {tg x z : Expr} (hy : Hyp U W L k) (g : Gd W k N sc ow X Z) (hg : gnameIs sc "range" z = true) (hn : notStar x = true) (hb : Snd W X Z mb x) (pos : Pos) : PI X tg (.Call z [x] [] pos) (RDi W Z (rng1M mb)) := by
  obtain ⟨p, rfl, hgl, _⟩ := g.gl hg
  refine ⟨fun pins s σ H R I q => (pi_range1 hgl (g.mgN hy (by decide +kernel)) (pa_cons hb.pe pa_nil (star_cons hn)) (star_cons hn)).run pins s σ H R I ?_⟩
  obtain ⟨F, μ, env, h, r, e, m⟩ := q
  show RD W Z mb σ H fun x H1 => ∃ j : Int, [x] = [.int j] ∧ -(2 ^ 62) ≤ j ∧ j < 2 ^ 62 ∧ R (Itr 0 j.toNat) H1
  refine rd_step r e m fun v h1 F1 μ1 H1 x r1 e1 s1 v1 m1 => ?_
  cases v with
  | int j =>
    have ex : x = .int j := v1
    have m2 : Aft (if rgOk j = true then Out.ok (rngV 0 j.toNat) h1 else .bad) _ _ := m1
    by_cases hj : rgOk j = true
    · rw [if_pos hj] at m2
      obtain ⟨b1, b2⟩ := rgOk_of hj
      exact ⟨j, by rw [ex], b1, b2, m2 F1 μ1 H1 _ r1 s1 (walk_rng 0 j.toNat)⟩
    · rw [if_neg hj] at m2
      exact m2.elim
  | _ => exact m1.elim
theorem snd_irng2 {ma mb : Ev Val} {tg x x2 z : Expr} (hy : Hyp U W L k) (g : Gd W k N sc ow X Z) (hg : gnameIs sc "range" z = true) (hn : notStar x = true) (hn2 : notStar x2 = true) (ha : Snd W X Z ma x) (hb : Snd W X Z mb x2) (pos : Pos) :
    PI X tg (.Call z [x, x2] [] pos) (RDi W Z (rng2M ma mb)) := by
  obtain ⟨p, rfl, hgl, _⟩ := g.gl hg
  have t2 : starEach [x2] X.env = [(false, eval x2 X.env)] := star_cons hn2
  refine ⟨fun pins s σ H R I q => (pi_range2 hgl (g.mgN hy (by decide +kernel)) (pa_cons ha.pe (pa_cons hb.pe pa_nil t2) (star_cons hn)) (by rw [star_cons hn, t2]) t2).run pins s σ H R I ?_⟩
  obtain ⟨F, μ, env, h, r, e, m⟩ := q
  show RD W Z ma σ H fun x H1 => RD W Z mb σ H1 fun y H2 => ∃ i j : Int, [x, y] = [.int i, .int j] ∧ (-(2 ^ 62) ≤ i ∧ i < 2 ^ 62 ∧ -(2 ^ 62) ≤ j ∧ j < 2 ^ 62) ∧ R (Itr i (j - i).toNat) H2
  refine rd_step r e m fun v h1 F1 μ1 H1 x r1 e1 s1 v1 m1 => ?_
  refine rd_step r1 e1 m1 fun w h2 F2 μ2 H2 y r2 e2 s2 v2 m2 => ?_
  cases v with
  | int i =>
    cases w with
    | int j =>
      have ex : x = .int i := v1
      have ey : y = .int j := v2
      have m3 : Aft (if (rgOk i && rgOk j) = true then Out.ok (rngV i (j - i).toNat) h2 else .bad) _ _ := m2
      by_cases hj : (rgOk i && rgOk j) = true
      · rw [if_pos hj] at m3
        obtain ⟨b1, b2⟩ := and2 hj
        obtain ⟨b1, b3⟩ := rgOk_of b1
        obtain ⟨b2, b4⟩ := rgOk_of b2
        exact ⟨i, j, by rw [ex, ey], ⟨b1, b3, b2, b4⟩, m3 F2 μ2 H2 _ r2 (s1.trans s2) (walk_rng i _)⟩
      · rw [if_neg hj] at m3
        exact m3.elim
    | _ => exact m2.elim
  | _ => exact m2.elim
end
end Pyi
set_option Elab.async false
set_option linter.all false
set_option maxRecDepth 100000
set_option maxHeartbeats 2000000
/-! The interpreter is right: reversed tuples, dicts. -/
namespace Pyi
open PySem PySem.Spec PyProof.Rows L2

section
variable {U : Nat → Option Def} {W : Wd} {L : Lk} {k : Nat} {N : List Str} {sc ow : Scope} {X : Cx} {Z : WX} {F F' : Addr → Prop} {μ μ' : List Addr} {H H' : Hp} {h h' : Hs}
theorem minus_eq {c : Expr} (h : minusOne c = true) : PE X c (tC (.int (-1))) := by
  unfold minusOne at h
  cases e : asUn c with
  | none => rw [e] at h; cases h
  | some t =>
    obtain ⟨o, p⟩ := t
    rw [e] at h
    obtain ⟨h1, h2⟩ := and2 h
    have h1 := of_decide_eq_true h1
    subst h1
    obtain ⟨pos, rfl⟩ := asUn_eq e
    cases e2 : asConst p with
    | none => rw [e2] at h2; cases h2
    | some cc =>
      rw [e2] at h2
      have h2 := of_decide_eq_true h2
      subst h2
      obtain ⟨kk, p2, rfl⟩ := asConst_eq e2
      refine PE.imp (pe_un un_neg pe_int) fun σ H Q q => ?_
      exact ⟨1, rfl, q⟩
theorem snd_rev {ma : Ev Val} {p c : Expr} (g : Gd W k N sc ow X Z) (ha : Snd W X Z ma p) (hc : minusOne c = true) (pos p2 : Pos) :
    Snd W X Z (fun env h => (ma env h).bind fun x h => ofOpt (getR x) h) (.Subscript p (.Slice none none (some c) p2) pos) := by
  refine .of (PE.imp (DTu.pe_back ha.pe (minus_eq hc)) fun σ H Q q => ?_) rfl
  obtain ⟨F, μ, env, h, r, e, m⟩ := q
  show RD W Z ma σ H fun x H1 => V.int (-1) = .int (-1) ∧ ∃ a xs, x = .ref a ∧ SqT X.K H1 a xs ∧ ∀ p, H1 p = none → Q (.ref p) (upd H1 p (.tup xs.reverse))
  refine rd_step r e m fun v h' F1 μ1 H1 x r1 e1 s1 v1 m1 => ⟨rfl, ?_⟩
  obtain ⟨u, eu, kk⟩ := aft_opt m1
  cases v with
  | tup vs =>
    obtain ⟨a, xs, rfl, t, q1, _, _⟩ := seqT v1
    cases eu
    refine ⟨a, xs, rfl, by rw [g.eK]; exact t, fun p np => ?_⟩
    obtain ⟨r2, s2, v2⟩ := newT r1 (RVs.reverse q1) np
    exact kk _ _ _ _ r2 (s1.trans s2) v2
  | _ => cases eu
/-! ### keys -/
theorem keyV_rv (ks : List L2.Key) : RVs W F μ H (ks.map keyV) (ks.map kV) := by
  induction ks with
  | nil => rfl
  | cons a ks ih =>
    refine ⟨kV a, ks.map kV, rfl, ?_, ih⟩
    cases a <;> rfl
theorem veqs_key : ∀ a b : List L2.Key, veqs (a.map keyV) (b.map keyV) = decide (a = b)
  | [], [] => rfl
  | [], _ :: _ => rfl
  | _ :: _, [] => rfl
  | x :: a, y :: b => by
    show (veq (keyV x) (keyV y) && veqs (a.map keyV) (b.map keyV)) = _
    rw [veqs_key a b]
    have e : veq (keyV x) (keyV y) = decide (x = y) := by
      cases x with
      | inl i =>
        cases y with
        | inl j =>
          show (i == j) = _
          by_cases h : i = j
          · subst h; simp
          · simp [h]
        | inr t => rfl
      | inr s =>
        cases y with
        | inl j => rfl
        | inr t =>
          show (s == t) = _
          by_cases h : s = t
          · subst h; simp
          · simp [h]
    rw [e]
    by_cases h1 : x = y
    · subst h1
      by_cases h2 : a = b
      · subst h2; simp
      · simp [h2]
    · simp [h1]
/-- a key's value -/
abbrev keyW (a : List L2.Key) : Val := .tup (a.map keyV)
theorem keyEq_key (a b : List L2.Key) : keyEq (keyW a) (keyW b) = decide (a = b) := veqs_key a b
theorem any_key {α : Type} (kvs : List (List L2.Key × α)) (b : List L2.Key) : (kvs.map fun p => keyW p.1).any (fun x => keyEq x (keyW b)) = kvs.any fun p => decide (p.1 = b) := by
  rw [List.any_map]
  congr 1
  funext p
  exact keyEq_key p.1 b
theorem key_of_T {v : Val} {x : L2.V} (h : keyT v = true) (r : RV W F μ H v x) : ∃ c ks, v = keyW ks ∧ x = .ref c ∧ F c ∧ H c = some (.tup (ks.map kV)) := by
  cases v with
  | tup vs =>
    obtain ⟨c, xs, rfl, f, g, q⟩ := r
    obtain ⟨ns, e⟩ := Option.isSome_iff_exists.mp (show (intsOf vs).isSome = true from h)
    have ex := RVs.ofInts e q
    have ev : vs = ns.map Val.int := by
      clear ex q h g f
      induction vs generalizing ns with
      | nil => cases e; rfl
      | cons v vs ih =>
        cases v with
        | int i =>
          obtain ⟨ms, e1, e2⟩ := Option.map_eq_some_iff.mp (show (intsOf vs).map (i :: ·) = some ns from e)
          subst e2
          rw [ih ms e1]
          rfl
        | _ => cases e
    refine ⟨c, ns.map .inl, ?_, rfl, f, ?_⟩
    · show Val.tup vs = Val.tup _
      rw [ev, List.map_map]
      rfl
    · rw [g, ex, List.map_map]
      rfl
  | _ => cases h
theorem putK_keys {kvs : List (List L2.Key × L2.V)} {b : List L2.Key} {y : L2.V} : (putK kvs b y).map (fun p => keyW p.1) = if (kvs.map fun p => keyW p.1).any (fun x => keyEq x (keyW b)) then kvs.map (fun p => keyW p.1) else kvs.map (fun p => keyW p.1) ++ [keyW b] := by
  rw [any_key]
  unfold putK
  by_cases h : (kvs.any fun p => decide (p.1 = b)) = true
  · rw [if_pos h, if_pos h, List.map_map]
    refine List.map_congr_left fun p _ => ?_
    show keyW (if p.1 = b then (p.1, y) else p).1 = keyW p.1
    split <;> rfl
  · rw [if_neg h, if_neg h, List.map_append]
    rfl
theorem putK_vals {kvs : List (List L2.Key × L2.V)} {b : List L2.Key} {y : L2.V} {vs : List Val} {v : Val} (q : RVs W F μ H vs (kvs.map (·.2))) (r : RV W F μ H v y) :
    RVs W F μ H (dput (kvs.map fun p => keyW p.1) vs (keyW b) v).2 ((putK kvs b y).map (·.2)) := by
  unfold dput putK
  rw [any_key]
  by_cases h : (kvs.any fun p => decide (p.1 = b)) = true
  · rw [if_pos h, if_pos h]
    clear h
    induction kvs generalizing vs with
    | nil => 
      have e : vs = [] := by
        have l := RVs.length q
        exact List.length_eq_zero_iff.mp l
      subst e
      rfl
    | cons p ps ih =>
      cases vs with
      | nil => 
        have q' : (p :: ps).map (·.2) = [] := q
        cases q'
      | cons w ws =>
        obtain ⟨x, xr, ex, q1, q2⟩ := q
        cases ex
        refine ⟨_, _, rfl, ?_, ih q2⟩
        show RV W F μ H (if keyEq (keyW p.1) (keyW b) then v else w) _
        rw [keyEq_key]
        by_cases hp : p.1 = b
        · rw [if_pos (decide_eq_true hp)]
          simp only [if_pos hp]
          exact r
        · rw [if_neg (by simpa using hp)]
          simp only [if_neg hp]
          exact q1
  · rw [if_neg h, if_neg h, List.map_append]
    exact RVs.append q ⟨y, [], rfl, r, rfl⟩
theorem putK_dput {kvs : List (List L2.Key × L2.V)} {b : List L2.Key} {y : L2.V} {vs : List Val} {v : Val} : (dput (kvs.map fun p => keyW p.1) vs (keyW b) v).1 = (putK kvs b y).map (fun p => keyW p.1) := by
  rw [putK_keys]
  unfold dput
  split <;> rfl
theorem firstKs_snoc : ∀ (ks : List Val) (acc : List Val) (b : Val), firstKs acc (ks ++ [b]) = if (firstKs acc ks).any (fun x => keyEq x b) then firstKs acc ks else firstKs acc ks ++ [b]
  | [], acc, b => rfl
  | a :: ks, acc, b => firstKs_snoc ks _ b
theorem firstKs_len : ∀ (ks : List Val) (acc : List Val), (firstKs acc ks).length ≤ acc.length + ks.length
  | [], acc => Nat.le_refl _
  | a :: ks, acc => by
    show (firstKs (if acc.any (fun x => keyEq x a) then acc else acc ++ [a]) ks).length ≤ _
    refine Nat.le_trans (firstKs_len ks _) ?_
    split
    · rw [List.length_cons]; omega
    · rw [List.length_append, List.length_cons, List.length_cons]; simp; omega
theorem ownD_some0 {env : Env} {i : Nat} {x : List Val × List Val} (h : ownDL env i = some x) : env[i]? = some (some (.ownD x.1 x.2)) := by
  unfold ownDL at h
  cases e : env[i]? with
  | none => rw [e] at h; cases h
  | some o =>
    rw [e] at h
    cases o with
    | none => cases h
    | some s => cases s <;> cases h; rfl
/-! ### list(d.items()) -/
theorem RVs.ofGet : ∀ {vs : List Val} {xs : List L2.V}, vs.length = xs.length → (∀ (j : Nat) v x, vs[j]? = some v → xs[j]? = some x → RV W F μ H v x) → RVs W F μ H vs xs
  | [], [], _, _ => rfl
  | [], _ :: _, h, _ => by cases h
  | _ :: _, [], h, _ => by cases h
  | v :: vs, x :: xs, h, q => ⟨x, xs, rfl, q 0 v x rfl rfl, RVs.ofGet (Nat.succ.inj h) fun j v x e1 e2 => q (j + 1) v x e1 e2⟩
theorem zipV_get : ∀ {xs ys : List Val} {j : Nat} {v : Val}, (zipV xs ys)[j]? = some v → ∃ a b, xs[j]? = some a ∧ ys[j]? = some b ∧ v = .tup [a, b]
  | [], _, _, _, e => by
    have e : ([] : List Val)[_]? = some _ := e
    simp at e
  | _ :: _, [], _, _, e => by
    have e : ([] : List Val)[_]? = some _ := e
    simp at e
  | x :: xs, y :: ys, 0, v, e => by
    cases e
    exact ⟨x, y, rfl, rfl, rfl⟩
  | x :: xs, y :: ys, j + 1, v, e => zipV_get (xs := xs) (ys := ys) (j := j) e
theorem zipV_len : ∀ {xs ys : List Val}, xs.length = ys.length → (zipV xs ys).length = xs.length
  | [], [], _ => rfl
  | [], _ :: _, h => by cases h
  | _ :: _, [], h => by cases h
  | _ :: xs, _ :: ys, h => congrArg Nat.succ (zipV_len (Nat.succ.inj h))
theorem snd_items {i : Nat} {x y : Expr} {ap cp pos : Pos} (hy : Hyp U W L k) (g : Gd W k N sc ow X Z) (hg : gnameIs sc "list" y = true) (hx : nameIs N sc i x = true) (hl : (ap.endLine == cp.line) = true) :
    PE X (.Call y [.Call (.Attribute x "items" ap) [] [] cp] [] pos) (RDf W Z fun env h => (ofOpt (ownDL env i) h).bind fun d h => .ok (zipV d.1 d.2) h) := by
  obtain ⟨p, rfl, hgl, hdb⟩ := g.gl hg
  obtain ⟨z, p2, rfl, hN, hv, h1, h2⟩ := g.vis hx
  refine PE.imp (pe_callTy (DTu.call_items2 g.calm) hgl (g.mgN hy (by decide +kernel)) boot_L (pa_cons (pe_bm0 PySem.F.plainAttrs_dict PySem.F.slot_dict_items PySem.F.type_dict_items DX.mt_itemsT (pe_var hN hv h1 h2) (by rfl) hl) pa_nil (star_cons rfl)) (by decide) hdb (star_cons rfl) (star_plain rfl)) fun σ H Q q => ?_
  obtain ⟨F, μ, env, h, r, e, a⟩ := q
  dsimp only at a
  cases ho : ownDL env i with
  | none =>
    rw [ho] at a
    exact a.elim
  | some d =>
    rw [ho] at a
    obtain ⟨v, e1, b, kvs, rfl, gb, nfb, nmb, ek, rv⟩ := e.sl i _ (ownD_some0 ho)
    refine ⟨.ref b, e1, .inr (.inr (.inl ⟨rfl, .inr ⟨kvs, gb⟩⟩)), b, kvs, rfl, rfl, gb, fun p np => ?_⟩
    have npb : b ≠ p := fun z => by rw [z, np] at gb; cases gb
    refine ⟨p, b, kvs, rfl, upd_same, (upd_ne npb).trans gb, fun G l ts keep nl nts lts nd len gl items => ?_⟩
    have up : ∀ {c : Addr}, c ≠ p → (upd H p (DX.itemsO p b)) c = H c := fun {c} z => upd_ne z
    have lnp : l ≠ p := fun z => by rw [z, upd_same] at nl; cases nl
    have hl0 : H l = none := (up lnp).symm.trans nl
    have tn : ∀ t ∈ ts, H t = none := fun t ht => by
      have z := nts t ht
      have : t ≠ p := fun y => by rw [y, upd_same] at z; cases z
      exact (up this).symm.trans z
    have kp : ∀ c o, H c = some o → G c = some o := fun c o e => keep c o ((up (fun z => by rw [z, np] at e; cases e)).trans e)
    let F' : Addr → Prop := fun c => F c ∨ c ∈ ts ∨ ∃ ns : List L2.Key, H c = some (.tup (ns.map kV))
    have fzH : ∀ c, F c → G c = H c := fun c f => by
      cases hc : H c with
      | none => exact absurd hc (r.lf c f)
      | some o => exact kp c o hc
    have mu0 : ∀ c, c ∈ μ → ∀ xs, H c ≠ some (.tup xs) := fun c hc xs z => by
      obtain ⟨n, hn⟩ := List.getElem?_of_mem hc
      have hlt : n < h.length := by rw [← r.len]; exact (List.getElem?_eq_some_iff.mp hn).1
      have q := r.ob n _ c (List.getElem?_eq_getElem hlt) hn
      generalize h[n] = ob at q
      cases ob with
      | lst vs =>
        obtain ⟨ys, g, _⟩ := q
        rw [g] at z
        cases z
      | ins cc ns vs =>
        obtain ⟨dx, fs, g, _⟩ := q
        rw [g] at z
        cases z
    have muG : ∀ c, c ∈ μ → G c = H c := fun c hc => by
      cases hh : H c with
      | none => exact absurd hh (r.lm c hc)
      | some o => exact kp c o hh
    have mon : Mon F μ H F' μ G := ⟨fun _ f => .inl f, fun _ _ z => z, fzH⟩
    have r2 : RSt W F' μ G h := {
      len := r.len
      nd := r.nd
      ob := fun n o c h1 h2 => RObj.mon mon (muG c (List.mem_of_getElem? h2)) (r.ob n o c h1 h2)
      nf := fun c hc f => by
        rcases f with f | f | ⟨ns, f⟩
        · exact r.nf c hc f
        · exact r.lm c hc (tn c f)
        · exact mu0 c hc _ f
      lm := fun c hc => by rw [muG c hc]; exact r.lm c hc
      lf := fun c f => by
        rcases f with f | f | ⟨ns, f⟩
        · rw [fzH c f]; exact r.lf c f
        · obtain ⟨j, hj, ej⟩ := List.mem_iff_getElem.mp f
          obtain ⟨q, bb, _, _, e3⟩ := items j c (by rw [List.getElem?_eq_getElem hj, ej])
          rw [e3]
          exact fun z => by cases z
        · rw [kp c _ f]
          exact fun z => by cases z }
    have s2 : Stp F μ H F' μ G := {
      f := fun _ f => .inl f
      m := ⟨[], (List.append_nil μ).symm⟩
      fz := fzH
      keep := fun c o e _ => kp c o e
      fn := fun c f => by
        rcases f with f | f | ⟨ns, f⟩
        · exact .inl f
        · exact .inr (.inl (tn c f))
        · exact .inr (.inr ⟨⟨_, f, True.intro⟩, fun hc => mu0 c hc _ f⟩)
      mn := fun _ f => .inl f
      lv := fun c e => by
        cases hh : H c with
        | none => exact absurd hh e
        | some o => rw [kp c o hh]; exact fun z => by cases z }
    have nfl : ¬ F' l := fun f => by
      rcases f with f | f | ⟨ns, f⟩
      · exact r.lf l f hl0
      · exact lts f
      · rw [hl0] at f; cases f
    have a' : ∀ F' μ' H' x, RSt W F' μ' H' h → Stp F μ H F' μ' H' → Fresh W H F' μ' H' (zipV d.1 d.2) x → Q x H' := a
    refine a' F' μ G (.ref l) r2 s2 ⟨l, ts.map V.ref, rfl, hl0, nfl, fun hm => r.lm l hm hl0, gl, ?_⟩
    have lk : d.1.length = kvs.length := by rw [ek, List.length_map]
    have lv : d.2.length = kvs.length := by rw [RVs.length rv, List.length_map]
    refine RVs.ofGet (by rw [zipV_len (lk.trans lv.symm), List.length_map, len, lk]) fun j v x ev ex => ?_
    obtain ⟨kj, vj, g1, g2, rfl⟩ := zipV_get ev
    obtain ⟨t, ht, et⟩ := Option.map_eq_some_iff.mp (by rw [← List.getElem?_map]; exact ex)
    subst et
    obtain ⟨q, bb, e3, e4, e5⟩ := items j t ht
    have e4' : H bb = some (.tup (q.1.map kV)) := by
      by_cases z : bb = p
      · rw [z, upd_same] at e4
        cases e4
      · exact (up z).symm.trans e4
    rw [ek, List.getElem?_map, e3] at g1
    have g1' := Option.some.inj g1
    obtain ⟨y, gy, ry⟩ := RVs.get rv g2
    rw [List.getElem?_map, e3] at gy
    cases gy
    refine ⟨t, [.ref bb, q.2], rfl, .inr (.inl (List.mem_of_getElem? ht)), e5, .ref bb, _, rfl, ?_, q.2, [], rfl, RV.mon mon _ _ ry, rfl⟩
    rw [← g1']
    exact ⟨bb, q.1.map kV, rfl, .inr (.inr ⟨_, e4'⟩), kp _ _ e4', keyV_rv q.1⟩
/-! ### len({k: True for .. in ..}) -/
def lenM (mi : Ev (List Val)) (tg : Tg) (mk : Ev Val) : Ev Val := fun env h => (mi env h).bind fun xs h =>
  if decide (xs.length ≤ most) then
    (mapF (fun x h => (ofOpt (bindT tg x (wipeE env tg.slots)) h).bind fun env' h =>
      (mk env' h).bind fun y h => if keyT y then .ok (some y) h else .bad) xs h).bind fun ks h => .ok (.int (firstKs [] ks).length) h
  else .bad
structure DcInv (W : Wd) (D : Addr) (F1 : Addr → Prop) (μ1 : List Addr) (H1 : Hp) (G : Val → Hs → Out (Option Val)) (xs : List Val) (Good : List Val → Hs → Prop) (i m : Nat) (Hc : Hp) : Prop where
  me : m = xs.length - i
  le : i ≤ xs.length
  ex : ∃ Fc μc hc ws, ∃ kvs : List (List L2.Key × L2.V), RSt W Fc μc Hc hc ∧ Stp F1 μ1 H1 Fc μc Hc ∧ ¬ Fc D ∧ D ∉ μc ∧ Hc D = some (.dT kvs) ∧ (kvs.map fun p => keyW p.1) = firstKs [] ws ∧ ws.length ≤ i ∧
    Aft (mapF G (xs.drop i) hc) (fun r h' => Good (ws ++ r) h') (fun _ _ _ => True)
theorem snd_lenDC {tgx iter kx vx y : Expr} {scope : Scope} {own : List (Str × Nat)} {pos pos2 : Pos} {mi : Ev (List Val)} {mk : Ev Val} {tg : Tg} (hy : Hyp U W L k) (g : Gd W k N sc ow X Z) (hgy : gnameIs sc "len" y = true) (hi : PI X tgx iter (RDi W Z mi)) (ok : BlkOk X.N X.env.scope scope own) (hsl : own.map (·.2) = tg.slots)
    (hg : ∀ (s : Shared) (H : Hp) (C : Addr) (cl : List (Str × Addr)) (fp : List Addr), PG (X.blk s H scope (compEnvC scope cl C X.env) fp) tgx (gG W tg))
    (hk : ∀ (s : Shared) (H : Hp) (C : Addr) (cl : List (Str × Addr)) (fp : List Addr), PE (X.blk s H scope (compEnvC scope cl C X.env) fp) kx (RD W Z0 mk)) (hv : asConst vx = some (.bool true)) (hs : ∀ x, foldedSetIterable iter X.env x = pure x) :
    Snd W X Z (lenM mi tg mk) (.Call y [.DictComp kx vx [⟨tgx, iter, [], 0⟩] scope pos2] [] pos) := by
  obtain ⟨p, rfl, hgl, hdb⟩ := g.gl hgy
  obtain ⟨kk, vp, rfl⟩ := asConst_eq hv
  have hu : X.A.units + 1 < cLine := Nat.lt_of_le_of_lt (by omega) g.units
  have hd := DTu.pe_dcT (tt := tYes) (tk := RD W Z0 mk) (tv := tC (.bl true)) hu g.calm g.nd hi ok hg (fun s H C cl fp => pts_nil) hk (fun s H C cl fp => pe_bl (b := true) (j := kk) (pos := vp)) hs (pos := pos2)
  refine .of (PE.imp (pe_callB call_len_dT hgl (g.mgN hy (by decide +kernel)) (by decide +kernel) (pa_cons hd pa_nil (star_cons rfl)) (by decide) hdb (star_cons rfl) (star_plain rfl)) fun σ H Q q => ?_) rfl
  obtain ⟨F, μ, env, h, r, e, a⟩ := q
  unfold lenM at a
  show RDi W Z mi σ H _
  refine rd_step r e a fun xs h1 F1 μ1 H1 J r1 e1 s1 wk a1 => ?_
  intro D nD
  by_cases hlen : decide (xs.length ≤ most) = true
  · rw [if_pos hlen] at a1
    have hlen' : xs.length ≤ most := of_decide_eq_true hlen
    generalize hG : (fun x h => (ofOpt (bindT tg x (wipeE env tg.slots)) h).bind fun env' h => (mk env' h).bind fun y h => if keyT y then Out.ok (some y) h else .bad : Val → Hs → Out (Option Val)) = G at a1
    generalize hGood : (fun (v : List Val) (h' : Hs) => ∀ (F' : Addr → Prop) (μ' : List Addr) (H' : Hp) (x : L2.V), RSt W F' μ' H' h' → Stp F μ H F' μ' H' → RV W F' μ' H' (.int (firstKs [] v).length) x → Q x H') = Good
    have a2 : Aft (mapF G xs h1) Good (fun _ _ _ => True) := by
      cases hm : mapF G xs h1 with
      | ok v h2 =>
        rw [hm] at a1
        rw [← hGood]
        exact a1
      | exc _ _ _ => trivial
      | bad =>
        rw [hm] at a1
        exact a1
    refine ⟨DcInv W D F1 μ1 H1 G xs Good, ⟨xs.length, by simp, Nat.zero_le _, F1, μ1, h1, [], [], r1.fresh nD, Stp.fresh nD (r1.notF nD), r1.notF nD, r1.notM nD, upd_same, rfl, Nat.le_refl _, a2⟩, fun i m Hc iv => ?_⟩
    obtain ⟨em, le, Fc, μc, hc', ws, kvs, rc, sc, nfD, nmD, gD, hks, hwl, ac⟩ := iv
    have w1 := wk Fc μc Hc hc' rc sc.mon
    by_cases hie : i = xs.length
    · subst hie
      refine .inl ⟨w1.2, D, kvs, rfl, gD, ?_⟩
      rw [List.drop_length] at ac
      have fin : Good (ws ++ []) hc' := ac
      rw [List.append_nil, ← hGood] at fin
      refine fin Fc μc Hc _ rc (s1.trans sc) ?_
      show V.int _ = V.int _
      rw [← hks, List.length_map]
    · have hlt : i < xs.length := by omega
      have hv : xs[i]? = some xs[i] := List.getElem?_eq_getElem hlt
      rw [drop_cons hv] at ac
      obtain ⟨o, h2, eG, ac2⟩ := mapF_step ac
      rw [← hG] at eG
      obtain ⟨env', h3, eb0, eG⟩ := bind_ok eG
      obtain ⟨eb, eh⟩ := opt_ok eb0
      subst eh
      obtain ⟨v5, h4, ec, eG⟩ := bind_ok eG
      obtain ⟨go, yl⟩ := w1.1 i xs[i] hv
      refine .inr ⟨go, DcInv W D F1 μ1 H1 G xs Good (i + 1) (xs.length - (i + 1)), fun H' q => ⟨xs.length - (i + 1), by omega, q⟩, fun y H' hy => ?_⟩
      obtain ⟨F2, r2, s2, v2⟩ := yl y H' hy
      have sc2 := sc.trans s2
      rw [hsl]
      refine ⟨F2, μc, wipeE env tg.slots, hc', xs[i], env', r2, (e1.mono sc2).wipe tg.slots, v2, eb, fun σ' e2 n2 l2 o2 => ⟨wipe_ext (l2.trans (L2.wipe_length σ _)) n2, ?_⟩⟩
      unfold tYes
      simp only [if_true]
      refine ⟨F2, μc, env', hc', r2, e2, ?_⟩
      rw [ec]
      intro F6 μ6 H6 z r6 s6 v6
      by_cases kt : keyT v5 = true
      · rw [if_pos kt] at eG
        cases eG
        have sAll : Stp Fc μc Hc F6 μ6 H6 := s2.trans s6
        have gD6 : H6 D = some (.dT kvs) := sAll.keep D _ gD nmD
        have nfD6 : ¬ F6 D := fun z => by
          rcases sAll.fn D z with z | z | ⟨⟨_, z, im⟩, _⟩
          · exact nfD z
          · rw [gD] at z; cases z
          · rw [gD] at z; cases z; exact im
        have nmD6 : D ∉ μ6 := fun z => by
          rcases sAll.mn D z with z | z
          · exact nmD z
          · rw [gD] at z; cases z
        obtain ⟨c, ks, ev, rfl, fc, gc⟩ := key_of_T kt v6
        have lk : kvs.length ≤ most := by
          have l1 : kvs.length = (firstKs [] ws).length := by rw [← hks, List.length_map]
          have l2 := firstKs_len ws []
          simp at l2
          omega
        refine ⟨kvs, ks, c, rfl, gc, gD6, Nat.lt_of_le_of_lt lk (by rw [sizeLine_eq]; decide), rfl, hlt, F6, μ6, h2, ws ++ [v5], putK kvs ks (.bl true), r6.out nfD6 nmD6,
          Stp.again r1 (sc.trans sAll) nD nfD6 (by rw [gD6]; exact fun q => by cases q), nfD6, nmD6, upd_same, ?_, by rw [List.length_append]; exact Nat.succ_le_succ hwl, ?_⟩
        · rw [putK_keys, hks, firstKs_snoc, ev]
        · have ac3 : Aft (mapF G (xs.drop (i + 1)) h2) (fun r h' => Good (ws ++ v5 :: r) h') (fun _ _ _ => True) := ac2
          have ee : (fun (r : List Val) (h' : Hs) => Good (ws ++ [v5] ++ r) h') = fun r h' => Good (ws ++ v5 :: r) h' := by
            funext r h'
            rw [List.append_assoc]
            rfl
          rw [ee]
          exact ac3
      · rw [if_neg kt] at eG
        cases eG
  · rw [if_neg hlen] at a1
    exact a1.elim
end
end Pyi
set_option Elab.async false
set_option linter.all false
set_option maxRecDepth 100000
set_option maxHeartbeats 2000000
/-! The interpreter is right: fields, properties, methods, making of instances. -/
namespace Pyi
open PySem PySem.Spec PyProof.Rows L2

section
variable {U : Nat → Option Def} {W : Wd} {L : Lk} {k : Nat} {N : List Str} {sc ow : Scope} {X : Cx} {Z : WX} {F F' : Addr → Prop} {μ μ' : List Addr} {H H' : Hp} {h h' : Hs}
theorem plain_attr {o : Expr} {n : Str} {env : PySem.Env} (hp : plainO o = true) : attributeBase o n env (eval o env) = eval o env := by
  cases o with
  | Call f es ks p =>
    cases es with
    | nil =>
      cases ks with
      | nil => cases hp
      | cons _ _ => cases f <;> rfl
    | cons _ _ => cases f <;> rfl
  | _ => rfl
theorem fldL_look : ∀ {fs : List (Str × L2.V)} {vs : List Val} {x : Str} {v : Val}, RVs W F μ H vs (fs.map (·.2)) → fldL (fs.map (·.1)) vs x = some v → ∃ y, fs.lookup x = some y ∧ RV W F μ H v y
  | [], _, _, _, _, e => by cases e
  | p :: fs, [], x, v, q, e => by
    have q' : (p :: fs).map (·.2) = [] := q
    cases q'
  | p :: fs, w :: vs, x, v, q, e => by
    obtain ⟨y, r, ey, q1, q2⟩ := q
    cases ey
    have e' : (if p.1 = x then some w else fldL (fs.map (·.1)) vs x) = some v := e
    obtain ⟨n, z⟩ := p
    rw [List.lookup_cons]
    by_cases hx : n = x
    · rw [if_pos hx] at e'
      cases e'
      have hb : (x == n) = true := by rw [hx]; exact beq_self_eq_true x
      rw [hb]
      exact ⟨z, rfl, q1⟩
    · rw [if_neg hx] at e'
      have hb : (x == n) = false := beq_eq_false_iff_ne.mpr (Ne.symm hx)
      rw [hb]
      exact fldL_look q2 e'
theorem fldL_mem : ∀ {ns : List Str} {vs : List Val} {x : Str} {v : Val}, fldL ns vs x = some v → x ∈ ns
  | [], _, _, _, e => by cases e
  | _ :: _, [], _, _, e => by cases e
  | n :: ns, w :: vs, x, v, e => by
    have e' : (if n = x then some w else fldL ns vs x) = some v := e
    by_cases hx : n = x
    · rw [hx]; exact List.mem_cons_self
    · rw [if_neg hx] at e'
      exact List.mem_cons_of_mem _ (fldL_mem e')
theorem snd_fld {m : Ev Val} {o : Expr} {x : Str} (g : Gd W k N sc ow X Z) (hp : plainO o = true) (ho : Snd W X Z m o) (pos : Pos) : Snd W X Z (fun env h => (m env h).bind fun v h => ofOpt (fldV v x) h) (.Attribute o x pos) := by
  refine .of (PE.imp (pe_fld ho.pe (plain_attr hp)) fun σ H Q q => ?_) rfl
  obtain ⟨F, μ, env, h, r, e, a⟩ := q
  show RD W Z m σ H fun y H1 => ∃ a C dx fs v, y = .ref a ∧ H1 a = some (.ins C dx fs) ∧ Cls X.K C ∧ NoAttr X.K C x ∧ fs.lookup x = some v ∧ Q v H1
  refine rd_step r e a fun v h1 F1 μ1 H1 y r1 e1 s1 v1 a1 => ?_
  obtain ⟨u, eu, kk⟩ := aft_opt a1
  cases v with
  | inst c ns vs =>
    obtain ⟨b, dx, fs, rfl, fb, fd, g1, g2, en, rv, cl, na⟩ := v1
    subst en
    obtain ⟨z, ez, rz⟩ := fldL_look rv (show fldL (fs.map (·.1)) vs x = some u from eu)
    exact ⟨b, _, dx, fs, z, rfl, g1, by rw [g.eK]; exact cl.cls, by rw [g.eK]; exact na x (fldL_mem (show fldL (fs.map (·.1)) vs x = some u from eu)), ez, kk F1 μ1 H1 z r1 s1 rz⟩
  | _ => cases eu
theorem Rm.in1 {n : Nat} {A : Around} (r : Rm (n + 1) A) : Rm n A.in1 := ⟨r.rm.in1, r.gd⟩
/-- a property is read -/
theorem getprop {pins : List (Addr × Obj)} {σ : L2.St} {s : Shared} {Q : VK} {b : Bool} {E' : Value → Shared → Prop} {a C dx p fa : Addr} {fs : List (Str × L2.V)} {x : Str} {fd : FuncData} {ps : List Str} {sp : Sp} {n : Nat} (I : Inv X pins σ H s) (ea : H a = some (.ins C dx fs)) (c : Cls X.K C) (hp : PropOf X.K C x p fa)
    (F : Fok X.prog X.w X.K X.mg X.base n fa fd ps sp) (hr : Rm (n + 1) X.A) (hb : Binds X.K fd ps []) (q : sp [.ref a] H Q (fun _ _ _ => False)) : wpAny (model X.prog X.w) X.A (getAttr (.ref a) x b) (EP X pins σ Q) E' s := by
  obtain ⟨mA, O, _, _, _, _⟩ := ins_get I.hok ea
  obtain ⟨od, J, _⟩ := O.look
  obtain ⟨rest, hrec⟩ := hp.rec_
  have I1 := I.tok (s.toks + 1)
  have hl : ([Value.ref a] ++ []).length = ps.length := (F.len _ _ _ _ q).symm ▸ rfl
  have hc : (PySem.W.clsIn X.K C).isSome = true := by
    obtain ⟨cd, z, _⟩ := PySem.W.any_some c.hd
    rw [z]
    rfl
  refine PySem.W.get_bind I.kIn J (PySem.W.plainGet_of (c.get x)).1 (PySem.W.findObj_data hc hp.at_ hp.get hp.tak) (PySem.W.plainGet_of (c.get x)).2 (wpAny_call (PySem.W.prop_get (s := { s with toks := s.toks + 1 }) I.kIn hrec ?_))
  refine codeAny_mono (F.run X.A.in1 X.stack { s with toks := s.toks + 1 } H ⟨[.ref a], []⟩ [.ref a] [.ref a] Q (fun _ _ _ => False) hr.in1 I1.env0.in1 (hb _ [.ref a] I1.kIn hl) (.cons rfl .nil) q) ?_
  intro r t ht
  match r, ht with
  | .error er, ht =>
    obtain ⟨_, _, _, _, _, _, _, _, _, _, _, _, z⟩ := ht
    exact z.elim
  | .ok .next, ht => exact False.elim ht
  | .ok .brk, ht => exact False.elim ht
  | .ok .cont, ht => exact False.elim ht
  | .ok (.ret u), ht =>
    obtain ⟨v, H2, I3, rv, q3⟩ := I1.after ht
    show wpAny _ _ (handedOut u) _ _ _
    rw [PySem.W.handedOut_of (handed_of rv)]
    exact wpAny_pure ⟨v, H2, I3, rv, q3⟩
theorem aft_nx {α : Type} {m : Out α} {Good : α → Hs → Prop} {X : Nat → Val → Hs → Prop} (a : Aft (nx m) Good X) : Aft m Good (fun _ _ _ => False) := by
  cases m with
  | ok v h => exact a
  | exc c v h => exact a.elim
  | bad => exact a
theorem disp_run {n : Nat} {l : List (Nat × Nat)} (hU : U n = some (.disp l)) {args : List Val} {h : Hs} {Good : Val → Hs → Prop} {Xq : Nat → Val → Hs → Prop} (a : Aft (callD U k n args h) Good Xq) :
    ∃ c g j, k = j + 1 ∧ clsOf args = some c ∧ l.lookup c = some g ∧ Aft (callD U j g args h) Good Xq := by
  cases k with
  | zero => exact a.elim
  | succ j =>
    by_cases hx : ∃ c g, clsOf args = some c ∧ l.lookup c = some g
    · obtain ⟨c, g, h1, h2⟩ := hx
      rw [callD_disp hU h1 h2] at a
      exact ⟨c, g, j, rfl, h1, h2, a⟩
    · rw [callD_disp_no hU fun c g h1 h2 => hx ⟨c, g, h1, h2⟩] at a
      exact a.elim
theorem cls_inst {v : Val} {vs : List Val} {c : Nat} (h : clsOf (v :: vs) = some c) : ∃ ns ws, v = .inst c ns ws := by
  cases v <;> cases h
  exact ⟨_, _, rfl⟩
theorem snd_prop {m : Ev Val} {o : Expr} {x : Str} {n : Nat} (hy : Hyp U W L k) (g : Gd W k N sc ow X Z) (hn : L.pn n = some x) (hp : plainO o = true) (ho : Snd W X Z m o) (pos : Pos) :
    Snd W X Z (fun env h => (m env h).bind fun v h => nx (callD U k n [v] h)) (.Attribute o x pos) := by
  obtain ⟨l, hU, hl⟩ := hy.prop n x hn
  refine .of ⟨fun pins s σ H Q I q => ?_⟩ rfl
  obtain ⟨F, μ, env, h, r, e, a⟩ := q
  have st : RD W Z m σ H (fun y H1 => ∀ (s1 : Shared) (u : Value), Inv X pins σ H1 s1 → RelV y u → wpAny (model X.prog X.w) X.A (getAttr u x true) (EP X pins σ Q) X.xe s1) := by
    refine rd_step r e a fun v h1 F1 μ1 H1 y r1 e1 s1 v1 a1 => ?_
    obtain ⟨c, gg, j, ek, h2, h3, a2⟩ := disp_run hU (aft_nx a1)
    obtain ⟨ns, ws, rfl⟩ := cls_inst h2
    obtain ⟨fa, fd, ps, p, cl, po, bi, fo⟩ := hl c gg h3
    obtain ⟨b, dx, fs, rfl, fb, fd', g1, g2, en, rv, fl⟩ := v1
    intro s2 u I2 ru
    obtain rfl : u = Value.ref b := ru
    have F' : Fok X.prog X.w X.K X.mg X.base j fa fd ps (spD W U j gg) := by rw [g.eP, g.ew, g.eK, g.emg, g.ebase]; exact fo j (by omega)
    refine getprop I2 g1 (by rw [g.eK]; exact cl) (by rw [g.eK]; exact po) F' (by rw [← ek]; exact g.rm) (by rw [g.eK]; exact bi) ?_
    refine ⟨F1, μ1, h1, [.inst c ns ws], r1, ⟨_, [], rfl, ⟨b, dx, fs, rfl, fb, fd', g1, g2, en, rv, fl⟩, rfl⟩, ?_⟩
    cases hc : callD U j gg [.inst c ns ws] h1 with
    | ok v h4 =>
      rw [hc] at a2
      exact fun F2 μ2 H2 y r2 s2 v2 => a2 F2 μ2 H2 y r2 (s1.trans s2) v2
    | exc c v h4 =>
      rw [hc] at a2
      exact a2.elim
    | bad =>
      rw [hc] at a2
      exact a2.elim
  exact attr_of (plain_attr hp) (thn (ho.pe.run pins s σ H _ I st) fun u s1 ⟨y, H1, I1, ry, q1⟩ => q1 s1 u I1 ry)
/-- a method's call, the method looked up ahead of the arguments -/
theorem meth_eq {o : Expr} {m : Str} {ap pos : Pos} {es : List Expr} {env : PySem.Env} (hp : plainO o = true) (hl : (ap.endLine == pos.line) = true) (hf : methodCallForm (es.length + 0) (backTo pos (starEach es env)) (backToKw pos (keywordEach [] env)) = true) :
    eval (.Call (.Attribute o m ap) es [] pos) env = (do
      let ov ← eval o env
      standAt ap.atName
      let (f, first) ← holding [ov] (getMethod ov m (do return (← importBound o env).getD true))
      callWith pos f first (backTo pos (starEach es env)) (backToKw pos (keywordEach [] env))) := by
  have e : eval (.Call (.Attribute o m ap) es [] pos) env = (do
    let ov ← attributeBase o m env (eval o env)
    standAt ap.atName
    methodCall o m ap pos env ov (es.length + 0) (backTo pos (starEach es env)) (backToKw pos (keywordEach [] env))) := by rfl
  rw [e, plain_attr hp]
  have mc : ∀ ov, methodCall o m ap pos env ov (es.length + 0) (backTo pos (starEach es env)) (backToKw pos (keywordEach [] env)) = (do
      let (f, first) ← holding [ov] (getMethod ov m (do return (← importBound o env).getD true))
      callWith pos f first (backTo pos (starEach es env)) (backToKw pos (keywordEach [] env))) := by
    intro ov
    unfold methodCall methodCallPos
    rw [hf, hl]
    rfl
  simp only [mc]
theorem form_ok {es : List Expr} {pos : Pos} {env : PySem.Env} (h : es.all notStar = true) (hl : es.length < 20) : methodCallForm (es.length + 0) (backTo pos (starEach es env)) (backToKw pos (keywordEach [] env)) = true := by
  have a : ∀ (xs : List Expr), xs.all notStar = true → (backTo pos (starEach xs env)).all (fun x => !x.1) = true := by
    intro xs
    induction xs with
    | nil => intro _; rfl
    | cons x xs ih =>
      intro h
      obtain ⟨h1, h2⟩ := and2 (show (notStar x && xs.all notStar) = true from h)
      rw [star_cons h1]
      exact ih h2
  unfold methodCallForm
  rw [a es h]
  show (true && true && decide (es.length + 0 + 0 < 30)) = true
  rw [decide_eq_true (by omega)]
  rfl
theorem noat_look {ns : List Str} {fs : List (Str × L2.V)} {C fa : Addr} {m : Str} (en : fs.map (·.1) = ns) (na : ∀ x ∈ ns, NoAttr W.K C x) (hm : Meth W.K C m fa) : fs.lookup m = none := by
  cases e : fs.lookup m with
  | none => rfl
  | some v =>
    have hmem : m ∈ fs.map (·.1) := by
      clear na en
      induction fs with
      | nil => cases e
      | cons p fs ih =>
        obtain ⟨n, z⟩ := p
        rw [List.lookup_cons] at e
        by_cases hb : (m == n) = true
        · rw [eq_of_beq hb]
          exact List.mem_cons_self
        · have hb' : (m == n) = false := by simpa using hb
          rw [hb'] at e
          exact List.mem_cons_of_mem _ (ih e)
    have n1 : PySem.W.findIn W.K (.ref C) m = some none := na m (en ▸ hmem)
    rw [hm.at_] at n1
    cases n1
theorem snd_meth {m : Ev Val} {ms : Ev (List Val)} {o : Expr} {x : Str} {n : Nat} {xs : List Expr} {ds : List Lit} {ap pos : Pos} (hy : Hyp U W L k) (g : Gd W k N sc ow X Z) (hn : L.mn n = some x) (hp : plainO o = true) (hl : (ap.endLine == pos.line) = true) (hx : xs.all notStar = true) (hlen : xs.length < 20) (hd : ds ∈ L.dfl n)
    (ho : Snd W X Z m o) (ha : PA X xs (RDs W Z ms)) (h0 : xs = [] → ∀ env h, ms env h = .ok [] h) :
    Snd W X Z (fun env h => (m env h).bind fun v h => (nx (ms env h)).bind fun vs h => callD U k n (v :: (vs ++ ds.map Lit.val)) h) (.Call (.Attribute o x ap) xs [] pos) := by
  obtain ⟨l, hU, hl2⟩ := hy.meth n x hn
  refine .of ⟨fun pins s σ H Q I q => ?_⟩ rfl
  obtain ⟨F, μ, env, h, r, e, a⟩ := q
  let kws := backToKw pos (keywordEach [] X.env)
  have st : RD W Z m σ H (fun y H1 => ∀ (s1 : Shared) (u : Value) (pl : Sem Bool), Inv X pins σ H1 s1 → RelV y u →
      wpAny (model X.prog X.w) X.A (getMethod u x pl) (fun fx s2 => wpAny (model X.prog X.w) X.A (callWith pos fx.1 fx.2 (backTo pos (starEach xs X.env)) kws) (EP X pins σ Q) X.xe s2) X.xe s1) := by
    refine rd_step r e a fun v h1 F1 μ1 H1 y r1 e1 s1 v1 a1 => ?_
    cases hm : ms env h1 with
    | ok vs h2 =>
      rw [hm] at a1
      have a1' : Aft (callD U k n (v :: (vs ++ ds.map Lit.val)) h2) _ (Exq W Z F1 μ1 H1 σ) := a1
      obtain ⟨c, gg, j, ek, q2, q3, a2⟩ := disp_run hU a1'
      obtain ⟨ns, ws, rfl⟩ := cls_inst q2
      obtain ⟨fa, fd, ps, cl, me, bi, fo⟩ := hl2 c gg q3
      obtain ⟨b, dx, fs, rfl, fb, fd', g1, g2, en, rv, fl⟩ := v1
      obtain ⟨dvs, bd, vd⟩ := bi ds hd
      intro s2 u pl I2 ru
      obtain rfl : u = Value.ref b := ru
      have F' : Fok X.prog X.w X.K X.mg X.base j fa fd ps (spD W U j gg) := by rw [g.eP, g.ew, g.eK, g.emg, g.ebase]; exact fo j (by omega)
      refine getmeth_ok I2 g1 (by rw [g.eK]; exact cl) (show Meth X.K _ x fa by rw [g.eK]; exact me) (noat_look en fl.2 me) ?_
      have ask : ∀ F2 μ2 H2 zs, RSt W F2 μ2 H2 h2 → Stp F1 μ1 H1 F2 μ2 H2 → RVs W F2 μ2 H2 vs zs → spD W U j gg (.ref b :: (zs ++ ds.map Lit.V)) H2 Q (fun c d H => Z c d σ H) := by
        intro F2 μ2 H2 zs r2 s2 v2
        refine ⟨F2, μ2, h2, .inst c ns ws :: (vs ++ ds.map Lit.val), r2, ⟨_, _, rfl, RV.mono s2 _ _ ⟨b, dx, fs, rfl, fb, fd', g1, g2, en, rv, fl⟩, RVs.append v2 (lits_rv ds)⟩, ?_⟩
        cases hc : callD U j gg (.inst c ns ws :: (vs ++ ds.map Lit.val)) h2 with
        | ok w h4 =>
          rw [hc] at a2
          exact fun F3 μ3 H3 y r3 s3 v3 => a2 F3 μ3 H3 y r3 ((s1.trans s2).trans s3) v3
        | exc cc w h4 =>
          rw [hc] at a2
          exact Exq.trans a2 s2
        | bad =>
          rw [hc] at a2
          exact a2.elim
      have arg : RDs W Z ms σ H1 (fun zs H2 => spD W U j gg (.ref b :: (zs ++ ds.map Lit.V)) H2 Q (fun c d H => Z c d σ H)) := by
        refine ⟨F1, μ1, env, h1, r1, e1, ?_⟩
        rw [hm]
        exact ask
      have hr : Rm j X.A := g.rm.mono (by omega)
      have bd' : Binds X.K fd ps dvs := by rw [g.eK]; exact bd
      have kp : PySem.W.keepIn X.K (.ref fa) = true := by rw [g.eK]; exact me.kp
      cases xs with
      | nil =>
        have e0 := h0 rfl env h1
        rw [hm] at e0
        cases e0
        exact PySem.W.callWith_K0 (first := [.ref b]) I2.kIn kp (fok_run (us := [.ref b]) (vs := [.ref b]) F' hr bd' vd g.tk I2 (.cons rfl .nil) (ask F1 μ1 H1 [] r1 Stp.refl rfl))
      | cons x0 xs =>
        obtain ⟨n1, n2⟩ := and2 (show (notStar x0 && xs.all notStar) = true from hx)
        refine PySem.W.callWith_K (first := [.ref b]) (h₀ := X.base) I2.ok.mod.kin kp (thn (ha.run pos pins s2 σ H1 _ I2 arg) fun us s3 ⟨zs, H2, I3, rz, q4⟩ => ⟨I3.kIn, ?_⟩) (star_cons n1) (star_plain n2)
        exact fok_run (us := .ref b :: us) (vs := .ref b :: zs) F' hr bd' vd g.tk I3 (.cons rfl rz) q4
    | exc c v h2 =>
      rw [hm] at a1
      exact a1.elim
    | bad =>
      rw [hm] at a1
      exact a1.elim
  exact PySem.W.methodCall_KW (pl := do return (← importBound o X.env).getD true) (thn (ho.pe.run pins s σ H _ I st) fun u s1 ⟨y, H1, I1, ry, q1⟩ => q1 s1 u _ I1 ry) (meth_eq hp hl (form_ok hx hlen))
/-! ### an instance is made -/
theorem Rm.make {n : Nat} {A : Around} (r : Rm (n + 1) A) (C : Addr) (us : List Value) (kw : List (Str × Value)) : Rm n (A.under (.builtin "type.__call__" ⟨.ref C :: us, kw⟩)) := by
  refine ⟨r.rm.make C us kw, ?_⟩
  show pushGuards (Code.guards (.builtin "type.__call__" ⟨.ref C :: us, kw⟩)) A.guards = some []
  rw [r.gd]
  rfl
theorem fok_make {pins : List (Addr × Obj)} {σ : L2.St} {s : Shared} {Q : VK} {us : List Value} {vs dvs : List L2.V} {ds : List Value} {C fi : Addr} {fd : FuncData} {ps : List Str} {sp : Sp} {n : Nat} (M : Mk X.K C fi) (F : Fok X.prog X.w X.K X.mg X.base n fi fd ps sp) (hr : Rm (n + 1) X.A) (hb : Binds X.K fd ps ds) (hd : Vals dvs ds) (tk : Takes X Z)
    (I : Inv X pins σ H s) (r : Vals vs us) (q : ∀ x dx, H x = none → H dx = none → dx ≠ x → sp (.ref x :: (vs ++ dvs)) (upd (upd H dx (.own x)) x (.ins C dx [])) (fun v H2 => v = .non ∧ Q (.ref x) H2) (fun c d H => Z c d σ H)) :
    wpAny (model X.prog X.w) X.A (call (.ref C) us) (EP X pins σ Q) X.xe s := by
  have hq := q (s.heap.objs.size + 1) s.heap.objs.size (I.hok.fresh (Nat.le_succ _)) (I.hok.fresh (Nat.le_refl _)) (Nat.ne_of_lt (Nat.lt_succ_self _))
  have I2 := Inv.made (C := C) I
  have r2 : Vals (V.ref (s.heap.objs.size + 1) :: (vs ++ dvs)) (Value.ref (s.heap.objs.size + 1) :: (us ++ ds)) := .cons rfl (r.append hd)
  have hl : (Value.ref (s.heap.objs.size + 1) :: us ++ ds).length = ps.length := (F.len _ _ _ _ hq).symm ▸ r2.length.symm
  refine wpAny_call (make_map (f := fi) I.kIn M.makes M.init (beq_iff_eq.mp M.fn) (codeAny_mono (F.run _ X.stack _ _ ⟨Value.ref (s.heap.objs.size + 1) :: us, []⟩ (Value.ref (s.heap.objs.size + 1) :: (us ++ ds)) _ _ (fun c d H => Z c d σ H) (hr.make C us [])
    (I2.env0.make C us []) (hb _ (Value.ref (s.heap.objs.size + 1) :: us) I2.kIn hl) r2 hq) ?_))
  intro res t ht
  match res, ht with
  | .error e, ht => exact tk e t (XE.of_call (W := Z) I2 (fun c d H' z => z) ht)
  | .ok .next, ht => exact False.elim ht
  | .ok .brk, ht => exact False.elim ht
  | .ok .cont, ht => exact False.elim ht
  | .ok (.ret u), ht =>
    obtain ⟨v, H2, I3, rv, ev, q3⟩ := I2.after ht
    subst ev
    exact ⟨rv, ⟨V.ref (s.heap.objs.size + 1), H2, I3, rfl, q3⟩⟩
theorem snd_new {ms : Ev (List Val)} {xs : List Expr} {n : Nat} {nm : Str} {ds : List Lit} {y : Expr} (hy : Hyp U W L k) (g : Gd W k N sc ow X Z) (hn : L.cn n = some nm) (hg : gnameIs sc nm y = true) (hd : ds ∈ L.dfl n) (hne : (!xs.isEmpty) = true) (hx : xs.all notStar = true)
    (ha : PA X xs (RDs W Z ms)) (pos : Pos) : Snd W X Z (fun env h => (ms env h).bind fun vs h => callD U k n (vs ++ ds.map Lit.val) h) (.Call y xs [] pos) := by
  obtain ⟨p, rfl, hgl, hdb⟩ := g.gl hg
  obtain ⟨c, d, fi, fd, ps, hU, hm, M, bi, fo⟩ := hy.make n nm hn
  obtain ⟨dvs, bd, vd⟩ := bi ds hd
  refine .of ⟨fun pins s σ H Q I q => ?_⟩ rfl
  cases xs with
  | nil => cases hne
  | cons x0 xs =>
    obtain ⟨n1, n2⟩ := and2 (show (notStar x0 && xs.all notStar) = true from hx)
    obtain ⟨F, μ, env, h, r, e, a⟩ := q
    have hm' : X.mg nm = some (.ref (W.ca c)) := by rw [g.emg]; exact hm
    have M' : Mk X.K (W.ca c) fi := by rw [g.eK]; exact M
    have bd' : Binds X.K fd ps dvs := by rw [g.eK]; exact bd
    cases k with
    | zero =>
      dsimp only at a
      cases hms : ms env h with
      | ok vs h1 =>
        rw [hms] at a
        exact a.elim
      | exc cc v h1 =>
        have st : RDs W Z ms σ H (fun _ _ => False) := ⟨F, μ, env, h, r, e, by rw [hms] at a ⊢; exact a⟩
        refine wpAny_Call_Name_kw (ld_glob I hgl hm' ?_ hdb)
        exact PySem.W.callWith_K (h₀ := X.base) I.ok.mod.kin M'.kp (thn (ha.run pos pins s σ H _ I st) fun us s1 ⟨_, _, _, _, z⟩ => z.elim) (star_cons n1) (star_plain n2)
      | bad =>
        rw [hms] at a
        exact a.elim
    | succ j =>
      have F' : Fok X.prog X.w X.K X.mg X.base j fi fd ps (spI W U j n c) := by rw [g.eP, g.ew, g.eK, g.emg, g.ebase]; exact fo j (by omega)
      have arg : RDs W Z ms σ H (fun zs H1 => ∀ x dx, H1 x = none → H1 dx = none → dx ≠ x → spI W U j n c (.ref x :: (zs ++ ds.map Lit.V)) (upd (upd H1 dx (.own x)) x (.ins (W.ca c) dx [])) (fun v H2 => v = .non ∧ Q (.ref x) H2) (fun c d H => Z c d σ H)) := by
        refine rd_step r e a fun vs h1 F1 μ1 H1 zs r1 e1 s1 v1 a1 => ?_
        intro x dx nx nd ne
        refine ⟨F1, μ1, h1, vs ++ ds.map Lit.val, x, dx, zs ++ ds.map Lit.V, H1, rfl, rfl, nx, nd, ne, r1, RVs.append v1 (lits_rv ds), ?_⟩
        cases hc : callD U (j + 1) n (vs ++ ds.map Lit.val) h1 with
        | ok v h2 =>
          rw [hc] at a1
          exact fun F2 μ2 H2 r2 s2 v2 => ⟨rfl, a1 F2 μ2 H2 _ r2 (s1.trans s2) v2⟩
        | exc cc v h2 =>
          rw [hc] at a1
          exact a1
        | bad =>
          rw [hc] at a1
          exact a1
      refine wpAny_Call_Name_kw (ld_glob I hgl hm' ?_ hdb)
      refine PySem.W.callWith_K (h₀ := X.base) I.ok.mod.kin M'.kp (thn (ha.run pos pins s σ H _ I arg) fun us s1 ⟨zs, H1, I1, rz, q1⟩ => ⟨I1.kIn, ?_⟩) (star_cons n1) (star_plain n2)
      exact fok_make M' F' g.rm bd' vd g.tk I1 rz q1
end
end Pyi
set_option Elab.async false
set_option linter.all false
set_option maxRecDepth 100000
set_option maxHeartbeats 2000000
/-! The interpreter is right: texts, displays with stars, dicts, more walks. -/
namespace Pyi
open PySem PySem.Spec PyProof.Rows L2

section
variable {U : Nat → Option Def} {W : Wd} {L : Lk} {k : Nat} {N : List Str} {sc ow : Scope} {X : Cx} {Z : WX}
theorem RVs.ofStrs {F : Addr → Prop} {μ : List Addr} {H : Hp} : ∀ {vs : List Val} {ns : List Str} {xs : List L2.V}, strsL vs = some ns → RVs W F μ H vs xs → xs = ns.map V.str
  | [], ns, xs, e, h => by
    have e' : _ = [] := h
    cases e
    exact e'
  | v :: vs, ns, xs, e, h => by
    obtain ⟨x, r, rfl, h1, h2⟩ := h
    cases v with
    | str i =>
      obtain ⟨ms, e1, e2⟩ := Option.map_eq_some_iff.mp (show (strsL vs).map (i :: ·) = some ns from e)
      have e3 : x = V.str i := h1
      rw [← e2, e3, RVs.ofStrs e1 h2]
      rfl
    | _ => cases e
theorem RVs.strs {F : Addr → Prop} {μ : List Addr} {H : Hp} : ∀ {ns : List Str}, RVs W F μ H (ns.map Val.str) (ns.map V.str)
  | [] => rfl
  | i :: ns => ⟨_, _, rfl, rfl, RVs.strs⟩
theorem snd_join {ma mb : Ev Val} {o z : Expr} {ap pos : Pos} (g : Gd W k N sc ow X Z) (hp : plainO o = true) (hl : (ap.endLine == pos.line) = true) (hz : notStar z = true) (ha : Snd W X Z ma o) (hb : Snd W X Z mb z) :
    Snd W X Z (fun env h => (ma env h).bind fun x h => (ofOpt (asS x) h).bind fun s h => (mb env h).bind fun y h => ofOpt (joinV s y) h) (.Call (.Attribute o "join" ap) [z] [] pos) := by
  refine .of (PE.imp (pe_join ha.pe hb.pe (star_cons hz) (plain_attr hp) hl) fun σ H Q q => ?_) rfl
  obtain ⟨F, μ, env, h, r, e, m⟩ := q
  show RD W Z ma σ H fun x H1 => (∃ a, x = .str a) ∧ RD W Z mb σ H1 fun y H2 => ∃ a p, ∃ ys : List Str, x = .str a ∧ [y] = [.ref p] ∧ (SqL X.K H2 p (ys.map V.str) ∨ SqT X.K H2 p (ys.map V.str)) ∧ (ys.map (·.length)).sum + ys.length * a.length ≤ 16777216 ∧ Q (.str (Txt.join a ys)) H2
  refine rd_step r e m fun v h1 F1 μ1 H1 x r1 e1 s1 v1 m1 => ?_
  cases v with
  | str a =>
    have ex : x = .str a := v1
    refine ⟨⟨a, ex⟩, rd_step r1 e1 m1 fun w h2 F2 μ2 H2 y r2 e2 s2 v2 m2 => ?_⟩
    obtain ⟨u, eu, kk⟩ := aft_opt m2
    have fin : ∀ {vs : List Val} {ys : List L2.V} {p : Addr}, (strsL vs).bind (joinS a) = some u → RVs W F2 μ2 H2 vs ys → y = .ref p → (SqL X.K H2 p ys ∨ SqT X.K H2 p ys) → ∃ a p, ∃ ys : List Str, x = .str a ∧ [y] = [.ref p] ∧ (SqL X.K H2 p (ys.map V.str) ∨ SqT X.K H2 p (ys.map V.str)) ∧ (ys.map (·.length)).sum + ys.length * a.length ≤ 16777216 ∧ Q (.str (Txt.join a ys)) H2 := fun {vs ys p} es q ey hs => by
      obtain ⟨ns, e1, e2⟩ := Option.bind_eq_some_iff.mp es
      rw [RVs.ofStrs e1 q] at hs
      unfold joinS at e2
      by_cases hc : (ns.map (·.length)).sum + ns.length * a.length ≤ most
      · rw [if_pos hc] at e2
        cases e2
        exact ⟨a, p, ns, ex, by rw [ey], hs, Nat.le_trans hc (by decide), kk F2 μ2 H2 _ r2 (s1.trans s2) rfl⟩
      · rw [if_neg hc] at e2
        cases e2
    cases w with
    | lst vs =>
      obtain ⟨p, ys, ey, t, q1, _, _⟩ := seqL v2
      exact fin eu q1 ey (.inl (by rw [g.eK]; exact t))
    | tup vs =>
      obtain ⟨p, ys, ey, t, q1, _, _⟩ := seqT v2
      exact fin eu q1 ey (.inr (by rw [g.eK]; exact t))
    | _ => cases eu
  | _ => exact m1.elim
theorem snd_split {ma mb : Ev Val} {o z : Expr} {ap pos : Pos} (g : Gd W k N sc ow X Z) (hp : plainO o = true) (hl : (ap.endLine == pos.line) = true) (hz : notStar z = true) (ha : Snd W X Z ma o) (hb : Snd W X Z mb z) :
    PE X (.Call (.Attribute o "split" ap) [z] [] pos) (RDf W Z (fun env h => (ma env h).bind fun x h => (ofOpt (asS x) h).bind fun s h => (mb env h).bind fun y h => ofOpt (splitV s y) h)) := by
  refine PE.imp (pe_split ha.pe hb.pe (star_cons hz) (plain_attr hp) hl) fun σ H Q q => ?_
  obtain ⟨F, μ, env, h, r, e, m⟩ := q
  show RD W Z ma σ H fun x H1 => (∃ a, x = .str a) ∧ RD W Z mb σ H1 fun y H2 => ∃ a b, x = .str a ∧ [y] = [.str b] ∧ (b.length == 0) = false ∧ a.length + 2 ≤ sizeLine ∧ rNewStrs (Txt.split a b) H2 Q
  refine rd_step r e m fun v h1 F1 μ1 H1 x r1 e1 s1 v1 m1 => ?_
  cases v with
  | str a =>
    have ex : x = .str a := v1
    refine ⟨⟨a, ex⟩, rd_step r1 e1 m1 fun w h2 F2 μ2 H2 y r2 e2 s2 v2 m2 => ?_⟩
    obtain ⟨u, eu, kk⟩ := aft_opt m2
    cases w with
    | str b =>
      have ey : y = .str b := v2
      have e' : (if b.length ≠ 0 ∧ a.length ≤ most then some ((Txt.split a b).map Val.str) else none) = some u := eu
      by_cases hc : b.length ≠ 0 ∧ a.length ≤ most
      · rw [if_pos hc] at e'
        cases e'
        refine ⟨a, b, ex, by rw [ey], by simpa using hc.1, Nat.le_trans (Nat.add_le_add_right hc.2 2) (by rw [sizeLine_eq]; decide), fun p np => ?_⟩
        obtain ⟨r3, s3, v3⟩ := newL r2 RVs.strs np (none_back (s1.trans s2) np)
        exact kk _ _ _ _ r3 ((s1.trans s2).trans s3) v3
      · rw [if_neg hc] at e'
        cases e'
    | _ => cases eu
  | _ => exact m1.elim
/-! ### f-strings -/
def jM (m : Ev Val) (ms : Str → Ev Val) (acc : Str) : Ev Val := fun env h => (m env h).bind fun x h => (ofOpt (strW x) h).bind fun y h => if acc.length + y.length ≤ most then ms (acc ++ y) env h else .bad
/-- the parts of an f-string -/
def JOk (W : Wd) (X : Cx) (Z : WX) (ms : Str → Ev Val) (xs : List Expr) : Prop := ∃ ts, PJ X xs ts ∧ ∀ acc σ H Q, RD W Z (ms acc) σ H Q → tJs ts acc σ H fun out H1 => Q (.str out) H1
theorem j_nil : JOk W X Z (fun acc _ h => .ok (.str acc) h) [] := ⟨[], .nil, fun acc σ H Q q => by
  obtain ⟨F, μ, env, h, r, e, a⟩ := q
  exact a F μ H _ r Stp.refl rfl⟩
theorem len_app (x y : Str) : (x ++ y).length = x.length + y.length := Array.size_append
theorem j_cons {m : Ev Val} {ms : Str → Ev Val} {x : Expr} {xs : List Expr} {t : TE} (ht : PE X x t) (hq : ∀ σ H Q, RD W Z m σ H (fun v H1 => (∃ y : Str, v = .str y ∧ y.length ≤ sizeLine ∧ Q (.str y) H1) ∨ ∃ i : Int, v = .int i ∧ i.natAbs.log2 < 1920 ∧ Q (.str (toString i)) H1) → t σ H Q)
    (hs : JOk W X Z ms xs) : JOk W X Z (jM m ms) (x :: xs) := by
  obtain ⟨ts, h1, h2⟩ := hs
  refine ⟨t :: ts, .cons ht h1, fun acc σ H Q q => ?_⟩
  obtain ⟨F, μ, env, h, r, e, a⟩ := q
  show t σ H fun x H1 => ∃ y : Str, x = .str y ∧ (acc ++ y).length ≤ sizeLine ∧ tJs ts (acc ++ y) σ H1 fun out H1 => Q (.str out) H1
  refine hq σ H _ ?_
  refine rd_step r e a fun v h1 F1 μ1 H1 x r1 e1 s1 v1 m1 => ?_
  obtain ⟨y, ey, m2⟩ : ∃ y, strW v = some y ∧ Aft (if acc.length + y.length ≤ most then ms (acc ++ y) env h1 else .bad) (fun v h' => ∀ F' μ' H' x, RSt W F' μ' H' h' → Stp F μ H F' μ' H' → RV W F' μ' H' v x → Q x H') (Exq W Z F1 μ1 H1 σ) := by
    cases hw : strW v with
    | none =>
      rw [hw] at m1
      exact m1.elim
    | some y =>
      rw [hw] at m1
      exact ⟨y, rfl, m1⟩
  by_cases hc : acc.length + y.length ≤ most
  · rw [if_pos hc] at m2
    have hl : (acc ++ y).length ≤ sizeLine := by rw [len_app]; exact most_line hc
    have hy : y.length ≤ sizeLine := most_line (Nat.le_trans (Nat.le_add_left _ _) hc)
    have fin : tJs ts (acc ++ y) σ H1 fun out H1 => Q (.str out) H1 := by
      refine h2 (acc ++ y) σ H1 Q ⟨F1, μ1, env, h1, r1, e1, ?_⟩
      cases hm : ms (acc ++ y) env h1 with
      | ok w h3 =>
        rw [hm] at m2
        exact fun F2 μ2 H2 z r2 s2 v2 => m2 F2 μ2 H2 z r2 (s1.trans s2) v2
      | exc c w h3 =>
        rw [hm] at m2
        exact m2
      | bad =>
        rw [hm] at m2
        exact m2
    cases v with
    | str z =>
      cases ey
      exact .inl ⟨y, v1, hy, y, rfl, hl, fin⟩
    | int i =>
      have e' : (if decide (i.natAbs < 2 ^ 1900) = true then some ((toString i : String) : Str) else none) = some y := ey
      by_cases hi : i.natAbs < 2 ^ 1900
      · rw [if_pos (decide_eq_true hi)] at e'
        cases e'
        have l := PySem.Flt.log2_lt_of (k := 1900) (by decide) hi
        exact .inr ⟨i, v1, by omega, _, rfl, hl, fin⟩
      · rw [decide_eq_false hi] at e'
        cases e'
    | _ => cases ey
  · rw [if_neg hc] at m2
    exact m2.elim
theorem j_fmt {m : Ev Val} {ms : Str → Ev Val} {x : Expr} {xs : List Expr} {p : Pos} (h : Snd W X Z m x) (hs : JOk W X Z ms xs) : JOk W X Z (jM m ms) (.FormattedValue x (-1) none p :: xs) :=
  j_cons (pe_fmt h.pe) (fun σ H Q q => q) hs
theorem j_txt {m : Ev Val} {ms : Str → Ev Val} {x : Expr} {xs : List Expr} (h : Snd W X Z m x) (ht : ∀ env h, ∃ y, m env h = .ok (.str y) h) (hs : JOk W X Z ms xs) : JOk W X Z (jM m ms) (x :: xs) := by
  refine j_cons h.pe (fun σ H Q q => ?_) hs
  obtain ⟨F, μ, env, h, r, e, a⟩ := q
  refine ⟨F, μ, env, h, r, e, ?_⟩
  obtain ⟨y, ey⟩ := ht env h
  rw [ey] at a ⊢
  intro F' μ' H' x r' s' v'
  rcases a F' μ' H' x r' s' v' with ⟨z, e1, _, q⟩ | ⟨i, e1, _⟩
  · rw [e1]
    exact q
  · have e2 : x = .str y := v'
    rw [e2] at e1
    cases e1
theorem snd_fstr {ms : Str → Ev Val} {x y : Expr} {xs : List Expr} {pos : Pos} (h : JOk W X Z ms (x :: y :: xs)) : Snd W X Z (ms Str.empty) (.JoinedStr (x :: y :: xs) pos) := by
  obtain ⟨ts, h1, h2⟩ := h
  exact .of (PE.imp (pe_joined h1) fun σ H Q q => h2 Str.empty σ H Q q) rfl
/-! ### displays with stars -/
theorem snd_pastar {m : Ev Val} {ms : Ev (List Val)} {x : Expr} {xs : List Expr} {p : Pos} (g : Gd W k N sc ow X Z) (h : Snd W X Z m x) (hs : PA X xs (RDs W Z ms)) :
    PA X (.Starred x p :: xs) (RDs W Z fun env h => (m env h).bind fun x h => (ofOpt (itemsOf x) h).bind fun ys h => (ms env h).bind fun r h => .ok (ys ++ r) h) := PA.imp (StX.pa_star h.pe hs rfl) fun σ H Q q => by
  obtain ⟨F, μ, env, h, r, e, a⟩ := q
  show RD W Z m σ H fun x H1 => ∃ p xs, x = V.ref p ∧ (SqT X.K H1 p xs ∨ SqL X.K H1 p xs) ∧ RDs W Z ms σ H1 fun ys H2 => Q (xs ++ ys) H2
  refine rd_step r e a fun v h1 F1 μ1 H1 x r1 e1 s1 v1 a1 => ?_
  have go : ∀ {vs : List Val} {ys : List L2.V} {p : Addr}, itemsOf v = some vs → RVs W F1 μ1 H1 vs ys → x = .ref p → (SqT X.K H1 p ys ∨ SqL X.K H1 p ys) → ∃ p xs, x = V.ref p ∧ (SqT X.K H1 p xs ∨ SqL X.K H1 p xs) ∧ RDs W Z ms σ H1 fun ys H2 => Q (xs ++ ys) H2 := fun {vs ys p} ei q ex hp => by
    rw [ei] at a1
    refine ⟨p, ys, ex, hp, ?_⟩
    refine rd_step r1 e1 (show Aft ((ms env h1).bind fun r h => .ok (vs ++ r) h) _ _ from a1) fun w h2 F2 μ2 H2 y r2 e2 s2 v2 a2 => ?_
    exact a2 F2 μ2 H2 _ r2 (s1.trans s2) (RVs.append (RVs.mono s2 _ _ q) v2)
  cases v with
  | tup vs =>
    obtain ⟨p, ys, ex, t, q, _, _⟩ := seqT v1
    exact go rfl q ex (.inl (by rw [g.eK]; exact t))
  | lst vs =>
    obtain ⟨p, ys, ex, t, q, _, _⟩ := seqL v1
    exact go rfl q ex (.inr (by rw [g.eK]; exact t))
  | _ => exact a1.elim
theorem snd_lstS {me : Ev (List Val)} {xs : List Expr} (ha : PA X xs (RDs W Z me)) (pos : Pos) : PE X (.List xs pos) (RDf W Z fun env h => (me env h).bind fun vs h => if decide (vs.length ≤ most) then .ok vs h else .bad) := by
  refine PE.imp (pe_lst ha) fun σ H Q q => ?_
  obtain ⟨F, μ, env, h, r, e, a⟩ := q
  show RDs W Z me σ H fun xs H1 => xs.length ≤ sizeLine ∧ ∀ p, H1 p = none → Q (.ref p) (upd H1 p (.lst xs))
  refine rd_step r e a fun vs h1 F1 μ1 H1 ys r1 e1 s1 v1 a1 => ?_
  by_cases hc : decide (vs.length ≤ most) = true
  · rw [if_pos hc] at a1
    refine ⟨by rw [← RVs.length v1]; exact most_line (of_decide_eq_true hc), fun p np => ?_⟩
    obtain ⟨r2, s2, v2⟩ := newL r1 v1 np (none_back s1 np)
    exact a1 _ _ _ _ r2 (s1.trans s2) v2
  · rw [if_neg hc] at a1
    exact a1.elim
/-! ### d.get(k, e) -/
theorem few_get {z z2 : Expr} {env : PySem.Env} {cp : Pos} (h1 : notStar z = true) (h2 : notStar z2 = true) : backTo cp (starEach [z, z2] env) = [(false, eval z env), (false, eval z2 env)] := by
  rw [star_cons h1, star_cons h2]
  rfl
theorem m2_get {o z z2 : Expr} {ap pos : Pos} (hp : plainO o = true) (hl : (ap.endLine == pos.line) = true) (h1 : notStar z = true) (h2 : notStar z2 = true) (m : Str) : M2 X o m ap z z2 pos where
  base := plain_attr hp
  few := by
    rw [few_get h1 h2]
    rfl
  line := hl
  trees := few_get h1 h2
/-! ### an own list beside [] -/
def rEmp (pos : Bool) : R2 := fun x y H Q => ∃ a b xs, x = .ref a ∧ y = .ref b ∧ H a = some (.lst xs) ∧ H b = some (.lst []) ∧ Q (.bl (xs.isEmpty == pos)) H
theorem op_emp (hu : X.A.units + 64 < cLine) (pos : Bool) : OpR X (compareOp (if pos then .Eq else .NotEq)) (rEmp pos) := by
  intro pins s σ H x y xv yv Q I rx ry hq
  obtain ⟨a, b, xs, rfl, rfl, ha, hb, q⟩ := hq
  cases rx
  cases ry
  obtain ⟨its, r1, p1, _⟩ := I.list (SqL.of ha)
  obtain ⟨its2, r2, p2, _⟩ := I.list (SqL.of hb)
  cases r2
  have hu' : X.A.units < cLine := by omega
  cases xs with
  | nil =>
    cases r1
    cases pos with
    | true => exact SeqAt.RcAt.lists (e := fun _ => true) p1.isList p2.isList rfl hu' (fun j h1 _ => absurd h1 (Nat.not_lt_zero _)) X.prog X.w X.xe _ ⟨.bl _, H, I, rfl, q⟩
    | false => exact SeqAt.RcNeAt.lists (e := fun _ => true) p1.isList p2.isList rfl hu' (fun j h1 _ => absurd h1 (Nat.not_lt_zero _)) X.prog X.w X.xe _ ⟨.bl _, H, I, rfl, q⟩
  | cons z zs =>
    cases r1 with
    | cons _ _ =>
      cases pos with
      | true => exact SeqAt.RcAt.lists_lengths p1.isList p2.isList (by simp) hu' X.prog X.w X.xe _ ⟨.bl _, H, I, rfl, q⟩
      | false => exact SeqAt.RcNeAt.lists_lengths p1.isList p2.isList (by simp) hu' X.prog X.w X.xe _ ⟨.bl _, H, I, rfl, q⟩
theorem snd_dget {md mk me : Ev Val} {o z z2 : Expr} {ap pos : Pos} (g : Gd W k N sc ow X Z) (hp : plainO o = true) (hl : (ap.endLine == pos.line) = true) (h1 : notStar z = true) (h2 : notStar z2 = true) (hd : Snd W X Z md o) (hk : Snd W X Z mk z) (he : Snd W X Z me z2) :
    Snd W X Z (fun env h => (md env h).bind fun x h => (ofOpt (asDc x) h).bind fun x h => (mk env h).bind fun y h => (me env h).bind fun z h => ofOpt (dgetV x y z) h) (.Call (.Attribute o "get" ap) [z, z2] [] pos) := by
  refine .of (PE.imp (pe_dget2 (by have := g.units; omega) hd.pe hk.pe he.pe (m2_get hp hl h1 h2 _)) fun σ H Q q => ?_) rfl
  obtain ⟨F, μ, env, h, r, e, m⟩ := q
  show RD W Z md σ H fun x H1 => ∃ a, x = .ref a ∧ IsD H1 a ∧ RD W Z mk σ H1 fun y H2 => RD W Z me σ H2 fun z H3 => ∃ o, DGet H3 a y o ∧ Q (o.getD z) H3
  refine rd_step r e m fun v h1 F1 μ1 H1 x r1 e1 s1 v1 m1 => ?_
  cases v with
  | dct ks vs =>
    obtain ⟨a, kvs, ex, fa, ga, ek, rv⟩ := v1
    refine ⟨a, ex, .inl ⟨kvs, .inl ga⟩, rd_step r1 e1 m1 fun w h2 F2 μ2 H2 y r2 e2 s2 v2 m2 => rd_step r2 e2 m2 fun w2 h3 F3 μ3 H3 y2 r3 e3 s3 v3 m3 => ?_⟩
    obtain ⟨u, eu, kk⟩ := aft_opt m3
    have e' : (if flatK w then some ((dget ks vs w).getD w2) else none) = some u := eu
    by_cases hf : flatK w = true
    · rw [if_pos hf] at e'
      cases e'
      obtain ⟨key, ey, ew⟩ := key_of_flat hf v2
      have st := s2.trans s3
      have g2 : H3 a = some (.dK kvs) := (st.fz a fa).trans ga
      subst ek ew
      have dr := dget_rel key (RVs.mono st _ _ rv)
      refine ⟨valV kvs key, .inl ⟨kvs, key, .inl g2, ey, rfl⟩, ?_⟩
      cases hg : dget (kvs.map fun p => keyV p.1) vs (keyV key) with
      | some v =>
        rw [hg] at dr
        obtain ⟨x3, e3, rx3⟩ := dr
        rw [e3]
        rw [hg] at kk
        exact kk F3 μ3 H3 _ r3 ((s1.trans s2).trans s3) rx3
      | none =>
        rw [hg] at dr
        rw [show valV kvs key = none from dr]
        rw [hg] at kk
        exact kk F3 μ3 H3 _ r3 ((s1.trans s2).trans s3) v3
    · rw [if_neg hf] at e'
      cases e'
  | _ => exact m1.elim
end
end Pyi
set_option Elab.async false
set_option linter.all false
set_option maxRecDepth 100000
set_option maxHeartbeats 2000000
/-! The interpreter is right: more walks, own lists beside [], dict comprehensions, own classes: isinstance, ==, !=. -/
namespace Pyi
open PySem PySem.Spec PyProof.Rows L2 RZ

section
variable {U : Nat → Option Def} {W : Wd} {L : Lk} {k : Nat} {N : List Str} {sc ow : Scope} {X : Cx} {Z : WX}
theorem var_some {env : Env} {i : Nat} {x : Val} (h : varV env i = some x) : env[i]? = some (some (.v x)) := by
  unfold varV at h
  cases e : env[i]? with
  | none => rw [e] at h; cases h
  | some o =>
    rw [e] at h
    cases o with
    | none => cases h
    | some s => cases s <;> cases h; rfl
theorem own_some {env : Env} {i : Nat} {x : List Val} (h : ownL env i = some x) : env[i]? = some (some (.own x)) := by
  unfold ownL at h
  cases e : env[i]? with
  | none => rw [e] at h; cases h
  | some o =>
    rw [e] at h
    cases o with
    | none => cases h
    | some s => cases s <;> cases h; rfl
theorem ownD_some {env : Env} {i : Nat} {x : List Val × List Val} (h : ownDL env i = some x) : env[i]? = some (some (.ownD x.1 x.2)) := by
  unfold ownDL at h
  cases e : env[i]? with
  | none => rw [e] at h; cases h
  | some o =>
    rw [e] at h
    cases o with
    | none => cases h
    | some s => cases s <;> cases h; rfl
/-! ### walks -/
/-- a walk over what is a list, a tuple or a text -/
theorem pi_walk {tg l : Expr} {tl : TE} (hl : PE X l tl) : PI X tg l (fun σ H R => tl σ H fun x H1 => (∃ a, x = .ref a ∧ ((∃ xs, SqL X.K H1 a xs) ∧ R (Itl X.K a) H1 ∨ (∃ xs, SqT X.K H1 a xs) ∧ R (Itt X.K a) H1)) ∨ ∃ y, x = .str y ∧ R (Its y) H1) := by
  refine ⟨fun pins s σ H R I h => thn (hl.run pins s σ H _ I h) ?_⟩
  rintro v s1 ⟨x, H1, I1, rx, hq⟩
  rcases hq with ⟨a, e, hq⟩ | ⟨y, ey, q⟩
  · subst e
    cases rx
    have new : ∀ b ∈ [s1.heap.objs.size], FpOk X pins H1 b := fun b hb => by
      have e : b = s1.heap.objs.size := by simpa using hb
      subst e
      exact I1.fpOk (Nat.le_refl _) (I1.hok.fresh (Nat.le_refl _))
    rcases hq with ⟨⟨xs, hq⟩, q⟩ | ⟨⟨xs, hq⟩, q⟩
    · obtain ⟨its, _, p, _⟩ := I1.list hq
      exact wpAny_pyIter_list p.isList ⟨s1.heap.objs.size, [s1.heap.objs.size], _, _, H1, rfl, I1.kept (t' := s1.toks) fun b o e => Heap.get?_push_of_some _ e, turn_list a _, ⟨_, Heap.get?_push_size _ rfl, rfl, rfl⟩, new, q⟩
    · obtain ⟨its, _, p, _⟩ := I1.tuple hq
      exact wpAny_pyIter_tuple (show s1.heap.IsTuple a its.toArray from p) ⟨s1.heap.objs.size, [s1.heap.objs.size], _, _, H1, rfl, I1.kept (t' := s1.toks) fun b o e => Heap.get?_push_of_some _ e, turn_tuple a _, ⟨_, Heap.get?_push_size _ rfl, rfl, rfl⟩, new, q⟩
  · subst ey
    obtain ⟨t, rfl⟩ := rx
    cases ha : y.cps.all (· < 128)
    · exact wpAny_pyIter_wide ha (pi_one (tk := s1.toks) I1 _ (turn_str _ y t "str_iterator" (.inr rfl)) ⟨_, Heap.get?_push_size _ rfl, rfl, rfl⟩ q)
    · exact wpAny_pyIter_ascii ha (pi_one (tk := s1.toks) I1 _ (turn_str _ y t "str_ascii_iterator" (.inl rfl)) ⟨_, Heap.get?_push_size _ rfl, rfl, rfl⟩ q)
theorem snd_iseq {m : Ev Val} {tg x : Expr} (g : Gd W k N sc ow X Z) (h : Snd W X Z m x) : PI X tg x (RDi W Z fun env h => (m env h).bind fun x h => ofOpt (walksOf x) h) := by
  refine ⟨fun pins s σ H R I q => (pi_walk h.pe).run pins s σ H R I ?_⟩
  obtain ⟨F, μ, env, h, r, e, a⟩ := q
  refine rd_step r e a fun v h1 F1 μ1 H1 x r1 e1 s1 v1 a1 => ?_
  obtain ⟨xs, ex, kk⟩ := aft_opt a1
  have other : itemsOf v = some xs → (∃ a, x = .ref a ∧ ((∃ xs, SqL X.K H1 a xs) ∧ R (Itl X.K a) H1 ∨ (∃ xs, SqT X.K H1 a xs) ∧ R (Itt X.K a) H1)) ∨ ∃ y, x = .str y ∧ R (Its y) H1 := fun ex => by
    obtain ⟨b, eb, w⟩ := walk_seq v1 ex
    refine .inl ⟨b, eb, ?_⟩
    rw [g.eK]
    rcases w with ⟨w1, w2⟩ | ⟨w1, w2⟩
    · exact .inl ⟨w1, kk F1 μ1 H1 _ r1 s1 w2⟩
    · exact .inr ⟨w1, kk F1 μ1 H1 _ r1 s1 w2⟩
  cases v with
  | str y =>
    cases ex
    exact .inr ⟨y, v1, kk F1 μ1 H1 _ r1 s1 (walk_str y)⟩
  | tup vs => exact other ex
  | lst vs => exact other ex
  | _ => cases ex
theorem enumV_get : ∀ (xs : List Val) (n i : Nat) (v : Val), (enumV n xs)[i]? = some v → ∃ x, xs[i]? = some x ∧ v = .tup [.int ((n + i : Nat) : Int), x]
  | [], n, i, v, e => by simp [enumV] at e
  | x :: xs, n, 0, v, e => by
    cases e
    exact ⟨x, rfl, rfl⟩
  | x :: xs, n, i + 1, v, e => by
    obtain ⟨y, e1, e2⟩ := enumV_get xs (n + 1) i v e
    refine ⟨y, e1, ?_⟩
    rw [e2]
    have : n + 1 + i = n + (i + 1) := by omega
    rw [this]
theorem enumV_len : ∀ (xs : List Val) (n : Nat), (enumV n xs).length = xs.length
  | [], _ => rfl
  | x :: xs, n => by
    show (enumV (n + 1) xs).length + 1 = xs.length + 1
    rw [enumV_len xs (n + 1)]
/-- a pair laid by a walk -/
theorem pair_laid {F : Addr → Prop} {μ : List Addr} {H : Hp} {h : Hs} {u v : Val} {x y : L2.V} {T : Addr} (r : RSt W F μ H h) (n : H T = none) (q1 : RV W F μ H u x) (q2 : RV W F μ H v y) :
    ∃ F2, RSt W F2 μ (upd H T (.tup [x, y])) h ∧ Stp F μ H F2 μ (upd H T (.tup [x, y])) ∧ RV W F2 μ (upd H T (.tup [x, y])) (.tup [u, v]) (.ref T) := by
  have s : Stp F μ H (fun a => F a ∨ a = T) μ (upd H T (.tup [x, y])) := Stp.laid n (r.notM n) (r.notF n)
  exact ⟨_, r.laid n, s, T, [x, y], rfl, .inr rfl, upd_same, x, [y], rfl, RV.mono s _ _ q1, y, [], rfl, RV.mono s _ _ q2, rfl⟩
theorem walk_enum {F : Addr → Prop} {μ : List Addr} {H : Hp} {vs : List Val} {x : L2.V} (hv : RV W F μ H (.lst vs) x) : ∃ a ys, x = .ref a ∧ SqL W.K H a ys ∧ WalkOk W F μ H (enumV 0 vs) (Ite W.K a) := by
  obtain ⟨a, ys, rfl, t, q, f, g⟩ := seqL hv
  refine ⟨a, ys, rfl, t, fun F' μ' H' h' r m => ?_⟩
  have t' : SqL W.K H' a ys := .inl (.inl ((m.fz a f).trans g))
  have q' := RVs.mon m _ _ q
  refine ⟨fun i v hi => ?_, ys, t', by rw [enumV_len, RVs.length q]; exact Nat.le_refl _⟩
  obtain ⟨w, hw, ev⟩ := enumV_get vs 0 i v hi
  obtain ⟨y, hy, ry⟩ := RVs.get q' hw
  refine ⟨⟨ys, y, t', hy⟩, fun z H2 hz => ?_⟩
  obtain ⟨T, x, rfl, nT, rfl, hx⟩ := hz
  have ex := hx ys t'
  rw [hy] at ex
  cases ex
  subst ev
  rw [Nat.zero_add]
  exact pair_laid r nT rfl ry
theorem snd_ienum {m : Ev Val} {tx x z : Expr} (hy : Hyp U W L k) (g : Gd W k N sc ow X Z) (ht : (asTup tx).isSome = true) (hg : gnameIs sc "enumerate" z = true) (hn : notStar x = true) (h : Snd W X Z m x) (pos : Pos) :
    PI X tx (.Call z [x] [] pos) (RDi W Z fun env h => (m env h).bind fun x h => (ofOpt (lstOf x) h).bind fun xs h => .ok (enumV 0 xs) h) := by
  obtain ⟨p, rfl, hgl, _⟩ := g.gl hg
  cases et : asTup tx with
  | none => rw [et] at ht; cases ht
  | some es =>
    obtain ⟨kk, tp, rfl⟩ := asTup_eq et
    refine ⟨fun pins s σ H R I q => (pi_enum hgl (g.mgN hy (by decide +kernel)) (pa_cons h.pe pa_nil (star_cons hn)) (star_cons hn)).run pins s σ H R I ?_⟩
    obtain ⟨F, μ, env, h, r, e, a⟩ := q
    show RD W Z m σ H fun x H1 => ∃ a xs, [x] = [.ref a] ∧ SqL X.K H1 a xs ∧ R (Ite X.K a) H1
    refine rd_step r e a fun v h1 F1 μ1 H1 x r1 e1 s1 v1 a1 => ?_
    cases v with
    | lst vs =>
      obtain ⟨b, ys, rfl, t, w⟩ := walk_enum v1
      rw [g.eK]
      exact ⟨b, ys, rfl, t, a1 F1 μ1 H1 _ r1 s1 w⟩
    | _ => exact a1.elim
theorem zipV_len2 : ∀ (xs ys : List Val), (zipV xs ys).length = min xs.length ys.length
  | [], ys => by cases ys <;> simp [zipV]
  | x :: xs, [] => by simp [zipV]
  | x :: xs, y :: ys => by
    show (zipV xs ys).length + 1 = min (xs.length + 1) (ys.length + 1)
    rw [zipV_len2 xs ys]
    omega
theorem zipV_get2 : ∀ (xs ys : List Val) (i : Nat) (v : Val), (zipV xs ys)[i]? = some v → ∃ x y, xs[i]? = some x ∧ ys[i]? = some y ∧ v = .tup [x, y]
  | [], ys, i, v, e => by cases ys <;> simp [zipV] at e
  | x :: xs, [], i, v, e => by simp [zipV] at e
  | x :: xs, y :: ys, 0, v, e => by
    cases e
    exact ⟨x, y, rfl, rfl, rfl⟩
  | x :: xs, y :: ys, i + 1, v, e => by
    obtain ⟨a, b, e1, e2, e3⟩ := zipV_get2 xs ys i v e
    exact ⟨a, b, e1, e2, e3⟩
theorem snd_izip {ma mb : Ev Val} {tx x x2 z : Expr} (hy : Hyp U W L k) (g : Gd W k N sc ow X Z) (ht : (asTup tx).isSome = true) (hg : gnameIs sc "zip" z = true) (hn : notStar x = true) (hn2 : notStar x2 = true) (ha : Snd W X Z ma x) (hb : Snd W X Z mb x2) (pos : Pos) :
    PI X tx (.Call z [x, x2] [] pos) (RDi W Z fun env h => (ma env h).bind fun x h => (mb env h).bind fun y h => (ofOpt (twoOf x y) h).bind fun p h => .ok (zipV p.1 p.2) h) := by
  obtain ⟨p, rfl, hgl, _⟩ := g.gl hg
  have t2 : starEach [x2] X.env = [(false, eval x2 X.env)] := star_cons hn2
  cases et : asTup tx with
  | none => rw [et] at ht; cases ht
  | some es =>
    obtain ⟨kk, tp, rfl⟩ := asTup_eq et
    refine ⟨fun pins s σ H R I q => (pi_zipA hgl (g.mgN hy (by decide +kernel)) (pa_cons ha.pe (pa_cons hb.pe pa_nil t2) (star_cons hn)) (star_cons hn) (by rw [t2]; rfl)).run pins s σ H R I ?_⟩
    obtain ⟨F, μ, env, h, r, e, a⟩ := q
    show RD W Z ma σ H fun x H1 => RD W Z mb σ H1 fun y H2 => ∃ a b xs ys, [x, y] = [.ref a, .ref b] ∧ ((SqL X.K H2 a xs ∧ SqL X.K H2 b ys ∧ R (Itz X.K a b) H2) ∨ (SqT X.K H2 a xs ∧ SqT X.K H2 b ys ∧ R (ItzT X.K a b) H2))
    refine rd_step r e a fun v h1 F1 μ1 H1 x r1 e1 s1 v1 a1 => ?_
    refine rd_step r1 e1 a1 fun w h2 F2 μ2 H2 y r2 e2 s2 v2 a2 => ?_
    have v1' := RV.mono s2 _ _ v1
    rw [g.eK]
    cases v with
    | lst vs =>
      cases w with
      | lst ws =>
        obtain ⟨b, ys, rfl, t, q, f, gg⟩ := seqL v1'
        obtain ⟨c, zs, rfl, t2, q2, f2, g2⟩ := seqL v2
        refine ⟨b, c, ys, zs, rfl, .inl ⟨t, t2, a2 F2 μ2 H2 _ r2 (s1.trans s2) fun F' μ' H' h' r m => ?_⟩⟩
        have u1 : SqL W.K H' b ys := .inl (.inl ((m.fz b f).trans gg))
        have u2 : SqL W.K H' c zs := .inl (.inl ((m.fz c f2).trans g2))
        refine ⟨fun i v hi => ?_, ys, zs, u1, u2, by rw [zipV_len2, RVs.length q, RVs.length q2]; omega⟩
        obtain ⟨a1, b1, g3, g4, rfl⟩ := zipV_get2 _ _ i v hi
        obtain ⟨y1, hy1, ry1⟩ := RVs.get (RVs.mon m _ _ q) g3
        obtain ⟨y2, hy2, ry2⟩ := RVs.get (RVs.mon m _ _ q2) g4
        refine ⟨⟨ys, zs, y1, y2, u1, u2, hy1, hy2⟩, fun z H2 hz => ?_⟩
        obtain ⟨T, p1, p2, rfl, nT, rfl, hx, hy⟩ := hz
        have ex := hx ys u1
        have ey := hy zs u2
        rw [hy1] at ex
        rw [hy2] at ey
        cases ex
        cases ey
        exact pair_laid r nT ry1 ry2
      | _ => exact a2.elim
    | tup vs =>
      cases w with
      | tup ws =>
        obtain ⟨b, ys, rfl, t, q, f, gg⟩ := seqT v1'
        obtain ⟨c, zs, rfl, t2, q2, f2, g2⟩ := seqT v2
        refine ⟨b, c, ys, zs, rfl, .inr ⟨t, t2, a2 F2 μ2 H2 _ r2 (s1.trans s2) fun F' μ' H' h' r m => ?_⟩⟩
        have u1 : SqT W.K H' b ys := .inl (.inl ((m.fz b f).trans gg))
        have u2 : SqT W.K H' c zs := .inl (.inl ((m.fz c f2).trans g2))
        refine ⟨fun i v hi => ?_, ys, zs, u1, u2, by rw [zipV_len2, RVs.length q, RVs.length q2]; omega⟩
        obtain ⟨a1, b1, g3, g4, rfl⟩ := zipV_get2 _ _ i v hi
        obtain ⟨y1, hy1, ry1⟩ := RVs.get (RVs.mon m _ _ q) g3
        obtain ⟨y2, hy2, ry2⟩ := RVs.get (RVs.mon m _ _ q2) g4
        refine ⟨⟨ys, zs, y1, y2, u1, u2, hy1, hy2⟩, fun z H2 hz => ?_⟩
        obtain ⟨T, p1, p2, rfl, nT, rfl, hx, hy⟩ := hz
        have ex := hx ys u1
        have ey := hy zs u2
        rw [hy1] at ex
        rw [hy2] at ey
        cases ex
        cases ey
        exact pair_laid r nT ry1 ry2
      | _ => exact a2.elim
    | _ => exact a2.elim
/-! ### an own list beside [] -/
theorem snd_oemp {i : Nat} {b : Bool} {x y : Expr} (g : Gd W k N sc ow X Z) (hx : nameIs N sc i x = true) (he : emptyL y = true) (pos : Pos) :
    Snd W X Z (fun env h => (ofOpt (ownL env i) h).bind fun vs h => .ok (.bl (vs.isEmpty == b)) h) (.Compare x [if b then .Eq else .NotEq] [y] pos) := by
  obtain ⟨z, p2, rfl, hN, hv, h1, h2⟩ := g.vis hx
  have hy : ∃ pp, y = .List [] pp := by
    unfold emptyL at he
    cases e : asList y with
    | none => rw [e] at he; cases he
    | some es =>
      rw [e] at he
      obtain ⟨pp, rfl⟩ := asList_eq e
      cases es with
      | nil => exact ⟨pp, rfl⟩
      | cons _ _ => cases he
  obtain ⟨pp, rfl⟩ := hy
  have key : ∀ σ H (Q : VK) F μ env h, RSt W F μ H h → REnv W F μ H env σ → (∃ vs, ownL env i = some vs ∧ ∀ H', RSt W F μ H' h → Stp F μ H F μ H' → Q (.bl (vs.isEmpty == b)) H') → tOp (rEmp b) (tVar i) (tLst tNil) σ H Q := fun σ H Q F μ env h r e ⟨vs, ho, q⟩ => by
    obtain ⟨v, e1, a, ys, rfl, ga, rv, _, _⟩ := e.sl i _ (own_some ho)
    refine ⟨.ref a, e1, Nat.zero_le _, fun p np => ?_⟩
    refine ⟨a, p, ys, rfl, rfl, (upd_ne (ne_of_none ga np)).trans ga, upd_same, ?_⟩
    have hl : ys.isEmpty = vs.isEmpty := by
      have := RVs.length rv
      cases ys <;> cases vs <;> simp_all
    rw [hl]
    exact q _ (r.fresh np) (Stp.fresh np (r.notF np))
  have hm : behindInMarks (if b then CmpOp.Eq else .NotEq) (.List [] pp) = false := mark_no rfl
  refine ⟨PE.imp (pe_cmpR (op_emp g.units b) (pe_var hN hv h1 h2) (pe_lst pa_nil) hm) fun σ H Q q => ?_, fun _ => PT.imp (pt_cmpR (op_emp g.units b) (pe_var hN hv h1 h2) (pe_lst pa_nil) hm) fun σ H Q q => ?_, fun z => by cases z⟩
  · obtain ⟨F, μ, env, h, r, e, a⟩ := q
    refine key σ H Q F μ env h r e ?_
    cases ho : ownL env i with
    | none =>
      dsimp only at a
      rw [ho] at a
      exact a.elim
    | some vs =>
      dsimp only at a
      rw [ho] at a
      exact ⟨vs, rfl, fun H' r' s' => a F μ H' _ r' s' rfl⟩
  · obtain ⟨F, μ, env, h, r, e, a⟩ := q
    refine key σ H _ F μ env h r e ?_
    cases ho : ownL env i with
    | none =>
      dsimp only at a
      rw [ho] at a
      exact a.elim
    | some vs =>
      dsimp only at a
      rw [ho] at a
      exact ⟨vs, rfl, fun H' r' s' => ⟨_, rfl, a F μ H' _ r' s' rfl⟩⟩
end
end Pyi
set_option Elab.async false
set_option linter.all false
set_option maxRecDepth 100000
set_option maxHeartbeats 2000000
/-! The interpreter is right: dict comprehensions, own classes: isinstance, ==, !=. -/
namespace Pyi
open PySem PySem.Spec PyProof.Rows L2 RZ

section
variable {U : Nat → Option Def} {W : Wd} {L : Lk} {k : Nat} {N : List Str} {sc ow : Scope} {X : Cx} {Z : WX}
/-! ### {k: v for .. in ..} -/
theorem any_flat {α : Type} (kvs : List (L2.Key × α)) (b : L2.Key) : (kvs.map fun p => keyV p.1).any (fun x => keyEq x (keyV b)) = kvs.any fun p => decide (p.1 = b) := by
  rw [List.any_map]
  congr 1
  funext p
  exact keyEq_V p.1 b
theorem putF_keys {kvs : List (L2.Key × L2.V)} {b : L2.Key} {y : L2.V} {vs : List Val} {v : Val} : (dput (kvs.map fun p => keyV p.1) vs (keyV b) v).1 = (putK kvs b y).map (fun p => keyV p.1) := by
  unfold dput putK
  rw [any_flat]
  by_cases h : (kvs.any fun p => decide (p.1 = b)) = true
  · rw [if_pos h, if_pos h, List.map_map]
    refine (List.map_congr_left fun p _ => ?_).symm
    show keyV (if p.1 = b then (p.1, y) else p).1 = keyV p.1
    split <;> rfl
  · rw [if_neg h, if_neg h, List.map_append]
    rfl
theorem putF_vals {F : Addr → Prop} {μ : List Addr} {H : Hp} {kvs : List (L2.Key × L2.V)} {b : L2.Key} {y : L2.V} {vs : List Val} {v : Val} (q : RVs W F μ H vs (kvs.map (·.2))) (r : RV W F μ H v y) :
    RVs W F μ H (dput (kvs.map fun p => keyV p.1) vs (keyV b) v).2 ((putK kvs b y).map (·.2)) := by
  unfold dput putK
  rw [any_flat]
  by_cases h : (kvs.any fun p => decide (p.1 = b)) = true
  · rw [if_pos h, if_pos h]
    clear h
    induction kvs generalizing vs with
    | nil =>
      have e : vs = [] := List.length_eq_zero_iff.mp (RVs.length q)
      subst e
      rfl
    | cons p ps ih =>
      cases vs with
      | nil =>
        have q' : (p :: ps).map (·.2) = [] := q
        cases q'
      | cons w ws =>
        obtain ⟨x, xr, ex, q1, q2⟩ := q
        cases ex
        refine ⟨_, _, rfl, ?_, ih q2⟩
        show RV W F μ H (if keyEq (keyV p.1) (keyV b) then v else w) _
        rw [keyEq_V]
        by_cases hp : p.1 = b
        · rw [if_pos (decide_eq_true hp)]
          simp only [if_pos hp]
          exact r
        · rw [if_neg (by simpa using hp)]
          simp only [if_neg hp]
          exact q1
  · rw [if_neg h, if_neg h, List.map_append]
    exact RVs.append q ⟨y, [], rfl, r, rfl⟩
/-- pairs -/
def AllP (ws : List Val) : Prop := ∀ w ∈ ws, ∃ y z, w = .tup [y, z]
theorem putAllL_snoc : ∀ (ws : List Val) (d : List Val × List Val) (y z : Val), AllP ws → putAllL (ws ++ [.tup [y, z]]) d = dput (putAllL ws d).1 (putAllL ws d).2 y z
  | [], d, y, z, _ => rfl
  | w :: ws, d, y, z, h => by
    obtain ⟨a, b, rfl⟩ := h w List.mem_cons_self
    exact putAllL_snoc ws _ y z fun v hv => h v (List.mem_cons_of_mem _ hv)
theorem dput_len (ks vs : List Val) (x y : Val) : (dput ks vs x y).1.length ≤ ks.length + 1 := by
  unfold dput
  split
  · exact Nat.le_succ _
  · simp
theorem putAllL_len : ∀ (ws : List Val) (d : List Val × List Val), AllP ws → (putAllL ws d).1.length ≤ d.1.length + ws.length
  | [], d, _ => Nat.le_refl _
  | w :: ws, d, h => by
    obtain ⟨a, b, rfl⟩ := h w List.mem_cons_self
    have h1 := putAllL_len ws (dput d.1 d.2 a b) fun v hv => h v (List.mem_cons_of_mem _ hv)
    have h2 := dput_len d.1 d.2 a b
    show (putAllL ws (dput d.1 d.2 a b)).1.length ≤ _
    rw [List.length_cons]
    omega
def dcM (mi : Ev (List Val)) (tg : Tg) (mk mv : Ev Val) : Ev Val := fun env h => (mi env h).bind fun xs h =>
  if decide (xs.length ≤ most) then
    (mapF (fun x h => (ofOpt (bindT tg x (wipeE env tg.slots)) h).bind fun env' h =>
      (mk env' h).bind fun y h => (mv env' h).bind fun z h => if flatK y then .ok (some (.tup [y, z])) h else .bad) xs h).bind fun ps h => .ok (putAll ps) h
  else .bad
structure DkInv (W : Wd) (D : Addr) (F1 : Addr → Prop) (μ1 : List Addr) (H1 : Hp) (G : Val → Hs → Out (Option Val)) (xs : List Val) (Good : List Val → Hs → Prop) (i m : Nat) (Hc : Hp) : Prop where
  me : m = xs.length - i
  le : i ≤ xs.length
  ex : ∃ Fc μc hc ws, ∃ kvs : List (L2.Key × L2.V), RSt W Fc μc Hc hc ∧ Stp F1 μ1 H1 Fc μc Hc ∧ ¬ Fc D ∧ D ∉ μc ∧ Hc D = some (.dK kvs) ∧ AllP ws ∧ (putAllL ws ([], [])).1 = (kvs.map fun p => keyV p.1) ∧ RVs W Fc μc Hc (putAllL ws ([], [])).2 (kvs.map (·.2)) ∧ ws.length ≤ i ∧
    Aft (mapF G (xs.drop i) hc) (fun r h' => Good (ws ++ r) h') (fun _ _ _ => True)
theorem dc_t {own : List (Str × Nat)} {mi : Ev (List Val)} {mk mv : Ev Val} {tg : Tg} (hsl : own.map (·.2) = tg.slots) {σ : L2.St} {H : Hp} {Q : VK} (q : RD W Z (dcM mi tg mk mv) σ H Q) :
    tDc (RDi W Z mi) (gG W tg) tYes (RD W Z0 mk) (RD W Z0 mv) (own.map (·.2)) σ H Q := by
  obtain ⟨F, μ, env, h, r, e, a⟩ := q
  unfold dcM at a
  show RDi W Z mi σ H _
  refine rd_step r e a fun xs h1 F1 μ1 H1 J r1 e1 s1 wk a1 => ?_
  intro D nD
  by_cases hlen : decide (xs.length ≤ most) = true
  · rw [if_pos hlen] at a1
    have hlen' : xs.length ≤ most := of_decide_eq_true hlen
    generalize hG : (fun x h => (ofOpt (bindT tg x (wipeE env tg.slots)) h).bind fun env' h => (mk env' h).bind fun y h => (mv env' h).bind fun z h => if flatK y then Out.ok (some (.tup [y, z])) h else .bad : Val → Hs → Out (Option Val)) = G at a1
    generalize hGood : (fun (v : List Val) (h' : Hs) => ∀ (F' : Addr → Prop) (μ' : List Addr) (H' : Hp) (x : L2.V), RSt W F' μ' H' h' → Stp F μ H F' μ' H' → RV W F' μ' H' (putAll v) x → Q x H') = Good
    have a2 : Aft (mapF G xs h1) Good (fun _ _ _ => True) := by
      cases hm : mapF G xs h1 with
      | ok v h2 =>
        rw [hm] at a1
        rw [← hGood]
        exact a1
      | exc _ _ _ => trivial
      | bad =>
        rw [hm] at a1
        exact a1
    refine ⟨DkInv W D F1 μ1 H1 G xs Good, ⟨xs.length, by simp, Nat.zero_le _, F1, μ1, h1, [], [], r1.fresh nD, Stp.fresh nD (r1.notF nD), r1.notF nD, r1.notM nD, upd_same, (fun _ z => by cases z), rfl, rfl, Nat.le_refl _, a2⟩, fun i m Hc iv => ?_⟩
    obtain ⟨em, le, Fc, μc, hc', ws, kvs, rc, sc, nfD, nmD, gD, hap, hks, hvs, hwl, ac⟩ := iv
    have w1 := wk Fc μc Hc hc' rc sc.mon
    by_cases hie : i = xs.length
    · subst hie
      refine .inl ⟨w1.2, ?_⟩
      rw [List.drop_length] at ac
      have fin : Good (ws ++ []) hc' := ac
      rw [List.append_nil, ← hGood] at fin
      have nH : H D = none := none_back s1 nD
      refine fin (fun a => Fc a ∨ a = D) μc Hc (.ref D) (rc.grow (by rw [gD]; exact fun z => by cases z) nmD) ((s1.trans sc).freeze nH) ?_
      exact ⟨D, kvs, rfl, .inr rfl, gD, hks, RVs.grow _ _ hvs⟩
    · have hlt : i < xs.length := by omega
      have hv : xs[i]? = some xs[i] := List.getElem?_eq_getElem hlt
      rw [drop_cons hv] at ac
      obtain ⟨o, h2, eG, ac2⟩ := mapF_step ac
      rw [← hG] at eG
      obtain ⟨env', h3, eb0, eG⟩ := bind_ok eG
      obtain ⟨eb, eh⟩ := opt_ok eb0
      subst eh
      obtain ⟨v5, h4, ec, eG⟩ := bind_ok eG
      obtain ⟨v6, h5, ed, eG⟩ := bind_ok eG
      obtain ⟨go, yl⟩ := w1.1 i xs[i] hv
      refine .inr ⟨go, DkInv W D F1 μ1 H1 G xs Good (i + 1) (xs.length - (i + 1)), fun H' q => ⟨xs.length - (i + 1), by omega, q⟩, fun y H' hy => ?_⟩
      obtain ⟨F2, r2, s2, v2⟩ := yl y H' hy
      have sc2 := sc.trans s2
      rw [hsl]
      refine ⟨F2, μc, wipeE env tg.slots, hc', xs[i], env', r2, (e1.mono sc2).wipe tg.slots, v2, eb, fun σ' e2 n2 l2 o2 => ⟨wipe_ext (l2.trans (L2.wipe_length σ _)) n2, ?_⟩⟩
      unfold tYes
      simp only [if_true]
      refine ⟨F2, μc, env', hc', r2, e2, ?_⟩
      rw [ec]
      intro F5 μ5 H5 z5 r5 s5 v5'
      refine ⟨F5, μ5, env', h4, r5, e2.mono s5, ?_⟩
      rw [ed]
      intro F6 μ6 H6 z r6 s6 v6'
      by_cases kt : flatK v5 = true
      · rw [if_pos kt] at eG
        cases eG
        have sAll : Stp Fc μc Hc F6 μ6 H6 := (s2.trans s5).trans s6
        have gD6 : H6 D = some (.dK kvs) := sAll.keep D _ gD nmD
        have nfD6 : ¬ F6 D := fun z => by
          rcases sAll.fn D z with z | z | ⟨⟨_, z, im⟩, _⟩
          · exact nfD z
          · rw [gD] at z; cases z
          · rw [gD] at z; cases z; exact im
        have nmD6 : D ∉ μ6 := fun z => by
          rcases sAll.mn D z with z | z
          · exact nmD z
          · rw [gD] at z; cases z
        obtain ⟨kk, ez, ev⟩ := key_of_flat kt v5'
        have lk : kvs.length ≤ most := by
          have l1 : kvs.length = (putAllL ws ([], [])).1.length := by rw [hks, List.length_map]
          have l2 := putAllL_len ws ([], []) hap
          simp at l2
          omega
        refine ⟨kvs, kk, ez, gD6, Nat.lt_of_le_of_lt lk (by rw [sizeLine_eq]; decide), rfl, hlt, F6, μ6, h2, ws ++ [.tup [v5, v6]], putK kvs kk z, r6.out nfD6 nmD6,
          Stp.again r1 (sc.trans sAll) nD nfD6 (by rw [gD6]; exact fun q => by cases q), nfD6, nmD6, upd_same, (fun w hw => by
            rcases List.mem_append.mp hw with hw | hw
            · exact hap w hw
            · rw [List.mem_singleton.mp hw]; exact ⟨_, _, rfl⟩), ?_, ?_, by rw [List.length_append]; exact Nat.succ_le_succ hwl, ?_⟩
        · rw [putAllL_snoc ws _ _ _ hap, hks, ev]
          exact putF_keys
        · rw [putAllL_snoc ws _ _ _ hap, hks, ev]
          exact RVs.out nfD6 _ _ (putF_vals (RVs.mono sAll _ _ hvs) v6')
        · have ac3 : Aft (mapF G (xs.drop (i + 1)) h2) (fun r h' => Good (ws ++ .tup [v5, v6] :: r) h') (fun _ _ _ => True) := ac2
          have ee : (fun (r : List Val) (h' : Hs) => Good (ws ++ [.tup [v5, v6]] ++ r) h') = fun r h' => Good (ws ++ .tup [v5, v6] :: r) h' := by
            funext r h'
            rw [List.append_assoc]
            rfl
          rw [ee]
          exact ac3
      · rw [if_neg kt] at eG
        cases eG
  · rw [if_neg hlen] at a1
    exact a1.elim
theorem snd_dcomp {tgx iter kx vx : Expr} {scope : Scope} {own : List (Str × Nat)} {pos2 : Pos} {mi : Ev (List Val)} {mk mv : Ev Val} {tg : Tg} (g : Gd W k N sc ow X Z) (hi : PI X tgx iter (RDi W Z mi)) (ok : BlkOk X.N X.env.scope scope own) (hsl : own.map (·.2) = tg.slots)
    (hg : ∀ (s : Shared) (H : Hp) (C : Addr) (cl : List (Str × Addr)) (fp : List Addr), PG (X.blk s H scope (compEnvC scope cl C X.env) fp) tgx (gG W tg))
    (hk : ∀ (s : Shared) (H : Hp) (C : Addr) (cl : List (Str × Addr)) (fp : List Addr), PE (X.blk s H scope (compEnvC scope cl C X.env) fp) kx (RD W Z0 mk))
    (hv : ∀ (s : Shared) (H : Hp) (C : Addr) (cl : List (Str × Addr)) (fp : List Addr), PE (X.blk s H scope (compEnvC scope cl C X.env) fp) vx (RD W Z0 mv)) (hs : ∀ x, foldedSetIterable iter X.env x = pure x) :
    Snd W X Z (dcM mi tg mk mv) (.DictComp kx vx [⟨tgx, iter, [], 0⟩] scope pos2) :=
  .of (PE.imp (pe_dc (tt := tYes) (tk := RD W Z0 mk) (tv := RD W Z0 mv) g.calm g.nd hi ok hg (fun s H C cl fp => pts_nil) hk hv hs (pos := pos2)) fun σ H Q q => dc_t hsl q) rfl
/-- a local name = {..} on one line -/
theorem ps_setDc {i : Nat} {y : Str} {py : Pos} {kx vx tg iter : Expr} {ifs : List Expr} {scope : Scope} {own : List (Str × Nat)} {pos spos : Pos} {wi : TI} {g : TG} {tt : TT} {tk tv : TE} (hc : X.calm = true) (hN : X.N.Nodup) (hy : X.N[i]? = some y) (hyl : X.env.scope.names.lookup y = some .local)
    (hsw : swapsWith (.DictComp kx vx [⟨tg, iter, ifs, 0⟩] scope pos) (some (.Name y py)) spos.line X.env = pure true) (hi : PI X tg iter wi) (ok : BlkOk X.N X.env.scope scope own)
    (hg : ∀ (s : Shared) (H : Hp) (C : Addr) (cl : List (Str × Addr)) (fp : List Addr), PG (X.blk s H scope (compEnvC scope cl C X.env) fp) tg g) (ht : ∀ (s : Shared) (H : Hp) (C : Addr) (cl : List (Str × Addr)) (fp : List Addr), PTs (X.blk s H scope (compEnvC scope cl C X.env) fp) ifs tt)
    (hk : ∀ (s : Shared) (H : Hp) (C : Addr) (cl : List (Str × Addr)) (fp : List Addr), PE (X.blk s H scope (compEnvC scope cl C X.env) fp) kx tk)
    (hv : ∀ (s : Shared) (H : Hp) (C : Addr) (cl : List (Str × Addr)) (fp : List Addr), PE (X.blk s H scope (compEnvC scope cl C X.env) fp) vx tv) (hs : ∀ x, foldedSetIterable iter X.env x = pure x) :
    PS X (.Assign [.Name y py] (.DictComp kx vx [⟨tg, iter, ifs, 0⟩] scope pos) spos) (tAsg (tDc wi g tt tk tv (own.map (·.2))) (gName i)) := by
  refine ⟨fun pins s σ H D I h => ?_⟩
  rw [exec_Assign_Name_used _ _ _ _ hsw]
  refine wpAny_bind (wpAny_standAt (wpAny_bind ?_))
  show wpAny _ X.A (do let _ ← comprehension (.DictComp kx vx [⟨tg, iter, ifs, 0⟩] scope pos) scope X.env (firstIterPos [⟨tg, iter, ifs, 0⟩] pos) newDict false (eval iter X.env) (some (assign (.Name y py) X.env))) _ _ s
  have h : tDc wi g tt tk tv (own.map (·.2)) σ H (fun x H1 => gName i x σ H1 D.nx) := h
  refine wpAny_bind (thn (dc_core (Qf := fun _ s' => SP X pins D .next s') hc hN I hi ok hg ht hk hv hs h fun L C s' m H' I' q hn f => ?_) fun _ s' hq => wpAny_pure (wpAny_pure hq))
  show wpAny _ _ (assign (.Name y py) X.env (.ref L)) _ _ _
  refine wpAny_assign_Name (store_ok2 (v := V.ref L) I' hN hy (.inl hyl) rfl (fun s2 I2 ⟨a, sb, ha⟩ => ?_) (.inr hyl))
  obtain ⟨f0, f1, f2, f3, f4, f5⟩ := f
  have haC : C ≠ a := by
    rcases ha with z | z
    · rw [z]; exact f1
    · exact fun e => f4 y a z e.symm
  refine ⟨m, hn.sameBut sb haC, fun h3 sb3 => ?_⟩
  exact ⟨_, H', I2.turned (t' := s2.toks) (fun b o hb e => (sb3.2 b hb).trans e) f0 f1 f3 f4 f5, q⟩
/-! ### isinstance with an own class -/
theorem tyx_ins {F : Addr → Prop} {μ : List Addr} {H : Hp} {c : Nat} {ns : List Str} {vs : List Val} {x : L2.V} (hv : RV W F μ H (.inst c ns vs) x) : TyX W.K H x (.ref (W.ca c)) := by
  obtain ⟨a, dx, fs, rfl, _, _, g1, _, _, _, fl⟩ := hv
  exact .base (.ins g1 fl.1.cls fl.1.ha fl.1.hn fl.1.htk fl.1.hm)
theorem isi_O {F : Addr → Prop} {μ : List Addr} {H : Hp} {v : Val} {x : L2.V} {c : Nat} {b : Bool} (o : OwnC W.K (W.ca c)) (hv : RV W F μ H v x) (e : isiOf v (.own c) = some b) : ∃ t, TyX W.K H x t ∧ PySem.W.kitOne W.K t (.ref (W.ca c)) = some b := by
  cases v with
  | non =>
    obtain rfl : x = .non := hv
    cases e
    exact ⟨_, .base .non, o.kit _ (by simp)⟩
  | bl y =>
    obtain rfl : x = .bl y := hv
    cases e
    exact ⟨_, .base (.bl y), o.kit _ (by simp)⟩
  | int y =>
    obtain rfl : x = .int y := hv
    cases e
    exact ⟨_, .base (.int y), o.kit _ (by simp)⟩
  | str y =>
    obtain rfl : x = .str y := hv
    cases e
    exact ⟨_, .base (.str y), o.kit _ (by simp)⟩
  | tup vs =>
    obtain ⟨a, ys, rfl, _, _, _, g⟩ := seqT hv
    cases e
    exact ⟨_, .base (.tup g), o.kit _ (by simp)⟩
  | lst vs =>
    obtain ⟨a, ys, rfl, _, _, _, g⟩ := seqL hv
    cases e
    exact ⟨_, .base (.lst g), o.kit _ (by simp)⟩
  | dct ks vs =>
    obtain ⟨a, kvs, rfl, _, g, _, _⟩ := hv
    cases e
    exact ⟨_, .base (.dK g), o.kit _ (by simp)⟩
  | inst d ns vs =>
    have t := tyx_ins hv
    have e' : (if d = c then some true else none) = some b := e
    by_cases h : d = c
    · rw [if_pos h] at e'
      cases e'
      subst h
      refine ⟨_, t, ?_⟩
      unfold PySem.W.kitOne
      rw [if_pos (beq_self_eq_true _)]
    · rw [if_neg h] at e'
      cases e'
  | _ => cases e
theorem snd_isO {ma : Ev Val} {a y z : Expr} {c : Nat} {nm : Str} (hy : Hyp U W L k) (g : Gd W k N sc ow X Z) (hg : gnameIs sc "isinstance" y = true) (hl : L.cl c = some nm) (hz : gnameIs sc nm z = true) (hn : notStar a = true) (ha : Snd W X Z ma a) (pos : Pos) :
    Snd W X Z (fun env h => (ma env h).bind fun x h => ofOpt ((isiOf x (.own c)).map .bl) h) (.Call y [a, z] [] pos) := by
  obtain ⟨p, rfl, hgl, hdb⟩ := g.gl hg
  obtain ⟨p2, rfl, hgl2, hdb2⟩ := g.gl hz
  obtain ⟨hm, o⟩ := hy.own c nm hl
  have hpe : PE X (.Name nm p2) (tC (.ref (W.ca c))) := pe_glob hgl2 (by rw [g.emg]; exact hm) rfl hdb2
  refine .of (PE.imp (pe_callB call_isi hgl (g.mgN hy (by decide +kernel)) (by decide +kernel) (pa_cons ha.pe (pa_cons hpe pa_nil (star_cons rfl)) (star_cons hn)) (by decide) hdb (star_cons hn) (star_plain rfl)) fun σ H Q q => ?_) rfl
  obtain ⟨F, μ, env, h, r, e, m⟩ := q
  show RD W Z ma σ H fun x H1 => rIsi X.K [x, .ref (W.ca c)] H1 Q
  refine rd_step r e m fun v h' F1 μ1 H1 x r1 e1 s1 v1 m1 => ?_
  cases hi : isiOf v (.own c) with
  | none =>
    rw [hi] at m1
    exact m1.elim
  | some b =>
    rw [hi] at m1
    obtain ⟨T, q1, q2⟩ := isi_O o v1 hi
    exact ⟨x, .ref (W.ca c), T, .ref (W.ca c), b, rfl, .own _, by rw [g.eK]; exact q1, by rw [g.eK]; exact q2, m1 F1 μ1 H1 _ r1 s1 rfl⟩
/-! ### == and != of instances of an own class -/
theorem chk_ne {prog : Program} {w : World} {A : Around} {E : Value → Shared → Prop} {s : Shared} {K : PySem.W.Frag} {x C : Addr} {ox : Obj} {od : Option Obj} {b : Value} {Q : Unit → Shared → Prop}
    (X : K.In s.heap) (I : PySem.W.InstAt s.heap x ox C od) (hm : PySem.W.mroIn K C (.type "object") = some true) (q : Q () s) :
    wpAny (model prog w) A (checkBuiltinCall "object.__ne__" ⟨[.ref x, b], []⟩) Q E s := by
  have ha := PySem.F.cmpArgs_ne (.ref x) b
  simp only [checkBuiltinCall, PySem.F.cmpKind_ne, PySem.F.cmpSplit_ne]
  refine wpAny_bind ?_
  unfold isInstance
  refine wpAny_bind (I.type.here ?_)
  refine (PySem.W.looks_mroIn X hm).here ?_
  simp only [Bool.not_true, Bool.false_eq_true, if_false]
  cases hsig : Manifest.signature? "object.__ne__" with
  | none => exact wpAny_pure q
  | some sig =>
    simp only [argsOk, hsig] at ha
    have h2 : Bind.checkArgs "object.__ne__" sig ⟨[.ref x, b], []⟩ = pure () := ha
    show wpAny _ A (Bind.checkArgs "object.__ne__" sig ⟨[.ref x, b], []⟩) Q E _
    rw [h2]; exact wpAny_pure q
theorem body_ne {prog : Program} {w : World} {A : Around} {E : Value → Shared → Prop} {s : Shared} {K : PySem.W.Frag} {x C f : Addr} {ox : Obj} {od : Option Obj} {b : Value} {Q : Fin → Shared → Prop}
    (hu : A.units < cLine) (X : K.In s.heap) (I : PySem.W.InstAt s.heap x ox C od)
    (hs : PySem.W.findIn K (.ref C) "__eq__" = some (some (.ref f))) (hf : PySem.W.isFn K (.ref f) = true)
    (h : wpAny (model prog w) A (call (.ref f) [.ref x, b]) (fun v s' => ∃ r, v = .bool r ∧ Q (.done (.ret (.bool (!r)))) s') E s) :
    wpAny (model prog w) A (Builtin.«object.__ne__» ⟨[.ref x, b], []⟩) Q E s := by
  unfold Builtin.«object.__ne__»
  repeat (first
    | with_reducible refine wpAny_cRoomFor hu ?_
    | (refine wpAny_bind (m := callSpecialIfBound? (.ref x) (Str.ofString "__eq__") [b])
        (PySem.W.ifBound_K X I hs hf (wpAny_mono h (fun r s' hr => by
          obtain ⟨b, rfl, hq⟩ := hr
          repeat (first | exact hq | exact wpAny_pure hq | exact wpAny_truthy_bool hq | (refine wpAny_bind (m := truthy (.bool _)) (wpAny_truthy_bool ?_)) | wp_step)) fun _ _ e => e)))
    | wp_step)
theorem ifBound_ne {M : Model} {A : Around} {E : Value → Shared → Prop} {s : Shared} {K : PySem.W.Frag} {x C : Addr} {ox : Obj} {od : Option Obj} {args : List Value} {Q : Option Value → Shared → Prop} (X : K.In s.heap) (I : PySem.W.InstAt s.heap x ox C od)
    (hne : PySem.W.findIn K (.ref C) "__ne__" = some (some (.builtin "object.__ne__")))
    (h : wpAny M A (call (.builtin "object.__ne__") (.ref x :: args)) (fun v => Q (some v)) E s) : wpAny M A (callSpecialIfBound? (.ref x) "__ne__" args) Q E s := by
  simp only [callSpecialIfBound?, bindSpecialIfBound?]
  refine wpAny_holding (wpAny_bind (wpAny_bind (wpAny_bind (I.type.here ((PySem.W.looks_findIn X hne).here ?_)))))
  simp only [PySem.F.cmp_object.ne.bind]
  refine wpAny_bind (wpAny_askSetting (wpAny_ite ?_))
  have fin : wpAny M A (call (.builtin "object.__ne__") ([.ref x] ++ args) >>= fun v => pure (some v)) Q E s := wpAny_bind (wpAny_mono h (fun v s' h' => wpAny_pure h') fun _ _ h' => h')
  split
  · exact wpAny_bind (wpAny_pure (wpAny_pure fin))
  · exact wpAny_tryCatch (wpAny_bind (wpAny_pure (wpAny_pure fin)))
theorem ne_K {prog : Program} {w : World} {A : Around} {E : Value → Shared → Prop} {s : Shared} {K : PySem.W.Frag} {x C f : Addr} {ox : Obj} {od : Option Obj} {b tb : Value} {Q : Value → Shared → Prop}
    (hu : A.units + 1 < cLine) (X : K.In s.heap) (I : PySem.W.InstAt s.heap x ox C od) (hb : PySem.W.Looks (model prog w) s.heap (typeOf b) tb) (hn : PySem.W.notFirst K C tb = true)
    (hne : PySem.W.findIn K (.ref C) "__ne__" = some (some (.builtin "object.__ne__"))) (hm : PySem.W.mroIn K C (.type "object") = some true)
    (hs : PySem.W.findIn K (.ref C) "__eq__" = some (some (.ref f))) (hf : PySem.W.isFn K (.ref f) = true)
    (h : wpAny (model prog w) A.in1 (call (.ref f) [.ref x, b]) (fun v s' => ∃ r, v = .bool r ∧ Q (.bool (!r)) s') E s) : wpAny (model prog w) A (richCompare .NotEq (.ref x) b) Q E s := by
  have one : wpAny (model prog w) A (tryCompare (.ref x) (cmpInfo .NotEq).2.1 b) (fun r s' => ∃ v, r = some v ∧ Q v s') E s := by
    rw [show (cmpInfo .NotEq).2.1 = ("__ne__" : Str) from rfl]
    unfold tryCompare
    refine wpAny_bind (ifBound_ne X I hne (wpAny_call (codeAny_call_builtin PySem.F.cmp_object.ne.plain PySem.F.cmpEntry_ne (chk_ne X I hm (body_ne (A := A.in1) hu X I hs hf (wpAny_mono h (fun v s' hv => ?_) fun _ _ e => e))))))
    obtain ⟨r, rfl, q⟩ := hv
    exact ⟨r, rfl, wpAny_pure ⟨_, rfl, q⟩⟩
  unfold richCompare
  simp only [oneThing_ref]
  refine wpAny_holding (wpAny_bind (wpAny_cRoomFor (Nat.lt_of_succ_lt hu) ?_))
  refine wpAny_bind (I.type.here (wpAny_bind (hb.here ?_)))
  split
  · rename_i q
    have e : PySem.W.subIn K tb (.ref C) = some false := by
      rcases Bool.or_eq_true_iff.mp hn with e | e
      · rw [beq_iff_eq.mp e] at q; simp at q
      · exact beq_iff_eq.mp e
    refine wpAny_bind ((PySem.W.looks_subIn X e).here ?_)
    simp only [Bool.false_eq_true, if_false]
    refine wpAny_bind (wpAny_mono one (fun r s' z => ?_) fun _ _ e => e)
    obtain ⟨v, rfl, hq⟩ := z
    exact wpAny_pure hq
  · refine wpAny_bind (wpAny_pure ?_)
    simp only [Bool.false_eq_true, if_false]
    refine wpAny_bind (wpAny_mono one (fun r s' z => ?_) fun _ _ e => e)
    obtain ⟨v, rfl, hq⟩ := z
    exact wpAny_pure hq
/-- == or != by the own __eq__ -/
def rEqI (W : Wd) (U : Nat → Option Def) (k n : Nat) (neg : Bool) : R2 := fun x y H Q => ∃ F μ h v w, RSt W F μ H h ∧ RV W F μ H v x ∧ RV W F μ H w y ∧ sameC v w = some () ∧
  Aft ((nx (callD U k n [v, w] h)).bind fun r h => (ofOpt (asB r) h).bind fun t h => .ok (Val.bl (t != neg)) h) (fun u h' => ∀ F' μ' H' z, RSt W F' μ' H' h' → Stp F μ H F' μ' H' → RV W F' μ' H' u z → Q z H') (fun _ _ _ => False)
theorem op_eqI {n : Nat} (hy : Hyp U W L k) (g : Gd W k N sc ow X Z) (hn : L.eq n = true) (neg : Bool) : OpR X (compareOp (if neg then .NotEq else .Eq)) (rEqI W U k n neg) := by
  intro pins s σ H x y xv yv Q I rx ry hq
  obtain ⟨F, μ, h, v, w, r, v1, v2, sm, a⟩ := hq
  obtain ⟨l, hU, hl⟩ := hy.eqs n hn
  have a0 : Aft (callD U k n [v, w] h) (fun r h1 => ∃ t, r = .bl t ∧ ∀ F' μ' H' z, RSt W F' μ' H' h1 → Stp F μ H F' μ' H' → RV W F' μ' H' (.bl (t != neg)) z → Q z H') (fun _ _ _ => False) := by
    cases hc : callD U k n [v, w] h with
    | ok u h1 =>
      rw [hc] at a
      cases u with
      | bl t => exact ⟨t, rfl, a⟩
      | _ => exact a.elim
    | exc _ _ _ =>
      rw [hc] at a
      exact a.elim
    | bad =>
      rw [hc] at a
      exact a.elim
  obtain ⟨c, gg, j, ek, q2, q3, a2⟩ := disp_run hU a0
  obtain ⟨ns, ws, rfl⟩ := cls_inst q2
  obtain ⟨f, fd, ps, oe, bi, fo⟩ := hl c gg q3
  cases w with
  | inst d ns2 ws2 =>
    have hcd : c = d := by
      have e' : (if c = d then some () else none) = some () := sm
      by_cases z : c = d
      · exact z
      · rw [if_neg z] at e'; cases e'
    subst hcd
    obtain ⟨xa, dx, fs, rfl, fb, fd', g1, g2, en, rv, fl⟩ := id v1
    obtain ⟨ya, dy, fs2, rfl, fb2, fd2, g3, g4, en2, rv2, fl2⟩ := id v2
    obtain rfl : xv = Value.ref xa := rx
    obtain rfl : yv = Value.ref ya := ry
    obtain ⟨mA, J, _⟩ := ins_get I.hok g1
    obtain ⟨mB, J', _⟩ := ins_get I.hok g3
    obtain ⟨od, J, _⟩ := J.look
    obtain ⟨od', J', _⟩ := J'.look
    have F' : Fok X.prog X.w X.K X.mg X.base j f fd ps (spD W U j gg) := by rw [g.eP, g.ew, g.eK, g.emg, g.ebase]; exact fo j (by omega)
    have bi' : Binds X.K fd ps [] := by rw [g.eK]; exact bi
    have oe' : OwnEq X.K (W.ca c) f := by rw [g.eK]; exact oe
    have hsp : spD W U j gg [.ref xa, .ref ya] H (fun z H' => ∃ t, z = .bl t ∧ Q (.bl (t != neg)) H') (fun _ _ _ => False) := by
      refine ⟨F, μ, h, [.inst c ns ws, .inst c ns2 ws2], r, ⟨_, _, rfl, v1, _, _, rfl, v2, rfl⟩, ?_⟩
      cases hc : callD U j gg [.inst c ns ws, .inst c ns2 ws2] h with
      | ok u h4 =>
        rw [hc] at a2
        obtain ⟨t, rfl, a3⟩ := a2
        intro F2 μ2 H2 z r2 s2 z2
        exact ⟨t, z2, a3 F2 μ2 H2 _ r2 s2 rfl⟩
      | exc _ _ _ =>
        rw [hc] at a2
        exact a2.elim
      | bad =>
        rw [hc] at a2
        exact a2.elim
    have hlen : [Value.ref xa, Value.ref ya].length = ps.length := (F'.len _ _ _ _ hsp).symm ▸ rfl
    have rv2 : Vals [V.ref xa, V.ref ya] [Value.ref xa, Value.ref ya] := .cons rfl (.cons rfl .nil)
    have hrm : Rm (j + 1) X.A := ek ▸ g.rm
    cases neg with
    | false =>
      show wpAny _ _ (compareOp .Eq _ _) _ _ _
      unfold compareOp
      obtain ⟨m, hF⟩ := I.fr
      refine PySem.W.cmp_K (op := .Eq) (tb := .ref (W.ca c)) (Nat.lt_of_le_of_lt (by omega) g.units) hF I.ok.mod.kin J J'.type (by simp [PySem.W.notFirst]) oe'.eq oe'.fn ?_
      refine wpAny_call (codeAny_mono (F'.run X.A X.stack s H ⟨[.ref xa, .ref ya], []⟩ [.ref xa, .ref ya] [.ref xa, .ref ya] _ (fun _ _ _ => False) (hrm.mono (by omega)) I.env0 (by
        have := bi' s [.ref xa, .ref ya] I.kIn (by simpa using hlen)
        simpa using this) rv2 hsp) fun res t ht => ?_)
      match res, ht with
      | .error e, ht =>
        obtain ⟨_, _, _, _, _, _, _, _, _, _, _, _, z⟩ := ht
        exact z.elim
      | .ok .next, ht => exact False.elim ht
      | .ok .brk, ht => exact False.elim ht
      | .ok .cont, ht => exact False.elim ht
      | .ok (.ret u), ht =>
        obtain ⟨z, H2, I3, rz, t, rfl, q⟩ := I.after ht
        obtain rfl : u = Value.bool t := rz
        exact ⟨V.bl t, H2, I3, rfl, by simpa using q⟩
    | true =>
      show wpAny _ _ (compareOp .NotEq _ _) _ _ _
      unfold compareOp
      refine ne_K (tb := .ref (W.ca c)) (Nat.lt_of_le_of_lt (by omega) g.units) I.kIn J J'.type (by simp [PySem.W.notFirst]) oe'.ne oe'.own.hm oe'.eq oe'.fn ?_
      refine wpAny_call (codeAny_mono (F'.run X.A.in1 X.stack s H ⟨[.ref xa, .ref ya], []⟩ [.ref xa, .ref ya] [.ref xa, .ref ya] _ (fun _ _ _ => False) hrm.in1 I.env0.in1 (by
        have := bi' s [.ref xa, .ref ya] I.kIn (by simpa using hlen)
        simpa using this) rv2 hsp) fun res t ht => ?_)
      match res, ht with
      | .error e, ht =>
        obtain ⟨_, _, _, _, _, _, _, _, _, _, _, _, z⟩ := ht
        exact z.elim
      | .ok .next, ht => exact False.elim ht
      | .ok .brk, ht => exact False.elim ht
      | .ok .cont, ht => exact False.elim ht
      | .ok (.ret u), ht =>
        obtain ⟨z, H2, I3, rz, t, rfl, q⟩ := I.after ht
        obtain rfl : u = Value.bool t := rz
        exact ⟨t, rfl, V.bl (!t), H2, I3, rfl, by simpa using q⟩
  | _ => cases sm
theorem snd_eqI {ma mb : Ev Val} {p q : Expr} {n : Nat} (hy : Hyp U W L k) (g : Gd W k N sc ow X Z) (hn : L.eq n = true) (neg : Bool) (ha : Snd W X Z ma p) (hb : Snd W X Z mb q) (hq : notSet q = true) (pos : Pos) :
    Snd W X Z (fun env h => (ma env h).bind fun x h => (mb env h).bind fun y h => (ofOpt (sameC x y) h).bind fun _ h => (nx (callD U k n [x, y] h)).bind fun r h => (ofOpt (asB r) h).bind fun t h => .ok (Val.bl (t != neg)) h) (.Compare p [if neg then .NotEq else .Eq] [q] pos) := by
  have hm : behindInMarks (if neg then CmpOp.NotEq else .Eq) q = false := mark_no hq
  have fin : ∀ {F μ H F1 μ1 H1 F2 μ2 H2 σ} {h1 h2 : Hs} {v w : Val} {x y : L2.V} {Q : VK}, RSt W F2 μ2 H2 h2 → Stp F μ H F1 μ1 H1 → Stp F1 μ1 H1 F2 μ2 H2 → RV W F1 μ1 H1 v x → RV W F2 μ2 H2 w y →
      Aft ((ofOpt (sameC v w) h2).bind fun _ h => (nx (callD U k n [v, w] h)).bind fun r h => (ofOpt (asB r) h).bind fun t h => .ok (Val.bl (t != neg)) h) (fun u h' => ∀ F' μ' H' z, RSt W F' μ' H' h' → Stp F μ H F' μ' H' → RV W F' μ' H' u z → Q z H') (Exq W Z F2 μ2 H2 σ) → rEqI W U k n neg x y H2 Q := fun {F μ H F1 μ1 H1 F2 μ2 H2 σ h1 h2 v w x y Q} r2 s1 s2 v1 v2 a2 => by
    cases hs : sameC v w with
    | none =>
      rw [hs] at a2
      exact a2.elim
    | some u =>
      rw [hs] at a2
      have a3 : Aft ((nx (callD U k n [v, w] h2)).bind fun r h => (ofOpt (asB r) h).bind fun t h => .ok (Val.bl (t != neg)) h) _ _ := a2
      refine ⟨F2, μ2, h2, v, w, r2, RV.mono s2 _ _ v1, v2, hs, ?_⟩
      cases hc : callD U k n [v, w] h2 with
      | ok u h3 =>
        rw [hc] at a3
        cases u with
        | bl t => exact fun F3 μ3 H3 z r3 s3 v3 => a3 F3 μ3 H3 z r3 ((s1.trans s2).trans s3) v3
        | _ => exact a3.elim
      | exc _ _ _ =>
        rw [hc] at a3
        exact a3.elim
      | bad =>
        rw [hc] at a3
        exact a3.elim
  refine ⟨PE.imp (pe_cmpR (op_eqI hy g hn neg) ha.pe hb.pe hm) fun σ H Q q => ?_, fun _ => PT.imp (pt_cmpR (op_eqI hy g hn neg) ha.pe hb.pe hm) fun σ H Q q => ?_, fun z => by cases z⟩
  · obtain ⟨F, μ, env, h, r, e, a⟩ := q
    show RD W Z ma σ H fun x H1 => RD W Z mb σ H1 fun y H2 => rEqI W U k n neg x y H2 Q
    refine rd_step r e a fun v h1 F1 μ1 H1 x r1 e1 s1 v1 a1 => ?_
    refine rd_step r1 e1 a1 fun w h2 F2 μ2 H2 y r2 e2 s2 v2 a2 => ?_
    exact fin (h1 := h1) r2 s1 s2 v1 v2 a2
  · obtain ⟨F, μ, env, h, r, e, a⟩ := q
    show RD W Z ma σ H fun x H1 => RD W Z mb σ H1 fun y H2 => rEqI W U k n neg x y H2 fun x H' => ∃ k, x = .bl k ∧ Q k H'
    dsimp only at a
    rw [Out.assoc] at a
    refine rd_step r e a fun v h1 F1 μ1 H1 x r1 e1 s1 v1 a1 => ?_
    rw [Out.assoc] at a1
    refine rd_step r1 e1 a1 fun w h2 F2 μ2 H2 y r2 e2 s2 v2 a2 => ?_
    refine fin (F := F) (μ := μ) (H := H) (σ := σ) (h1 := h1) r2 s1 s2 v1 v2 ?_
    cases hs : sameC v w with
    | none =>
      rw [hs] at a2
      exact a2.elim
    | some u =>
      rw [hs] at a2
      cases hc : callD U k n [v, w] h2 with
      | ok u h3 =>
        have a3 : Aft (((nx (callD U k n [v, w] h2)).bind fun r h => (ofOpt (asB r) h).bind fun t h => .ok (Val.bl (t != neg)) h).bind fun x h => ofOpt (asB x) h) _ _ := a2
        rw [hc] at a3
        cases u with
        | bl t =>
          show Aft ((nx (callD U k n [v, w] h2)).bind fun r h => (ofOpt (asB r) h).bind fun t h => .ok (Val.bl (t != neg)) h) _ _
          rw [hc]
          exact fun F3 μ3 H3 z r3 s3 v3 => ⟨_, v3, a3 F3 μ3 H3 _ r3 s3 rfl⟩
        | _ => exact a3.elim
      | exc _ _ _ =>
        have a3 : Aft (((nx (callD U k n [v, w] h2)).bind fun r h => (ofOpt (asB r) h).bind fun t h => .ok (Val.bl (t != neg)) h).bind fun x h => ofOpt (asB x) h) _ _ := a2
        rw [hc] at a3
        exact a3.elim
      | bad =>
        have a3 : Aft (((nx (callD U k n [v, w] h2)).bind fun r h => (ofOpt (asB r) h).bind fun t h => .ok (Val.bl (t != neg)) h).bind fun x h => ofOpt (asB x) h) _ _ := a2
        rw [hc] at a3
        exact a3.elim
end
end Pyi
set_option Elab.async false
set_option linter.all false
set_option maxRecDepth 100000
set_option maxHeartbeats 2000000
/-! Pyi: displays of dicts with texts as keys. -/
namespace Pyi
open PySem PySem.Spec PyProof.Rows L2
section
variable {X : Cx} {W : Wd} {Z : WX} {U : Nat → Option Def} {k : Nat} {N : List Str} {sc ow : Scope} {L : Lk}
def zipS : List Str → List L2.V → List (L2.V × L2.V)
  | n :: ns, x :: xs => (.str n, x) :: zipS ns xs
  | _, _ => []
def zipK : List Str → List L2.V → List (L2.Key × L2.V)
  | n :: ns, x :: xs => (.inr n, x) :: zipK ns xs
  | _, _ => []
theorem zipS_K : ∀ (ns : List Str) (xs : List L2.V), zipS ns xs = (zipK ns xs).map fun kv => (kV kv.1, kv.2)
  | [], _ => rfl
  | _ :: _, [] => rfl
  | n :: ns, x :: xs => by
    show (V.str n, x) :: zipS ns xs = (V.str n, x) :: (zipK ns xs).map _
    rw [zipS_K ns xs]
theorem zipK_len : ∀ (ns : List Str) (xs : List L2.V), (zipK ns xs).length ≤ ns.length
  | [], _ => Nat.le_refl _
  | _ :: _, [] => Nat.zero_le _
  | n :: ns, x :: xs => Nat.succ_le_succ (zipK_len ns xs)
theorem zipK_keys : ∀ (ns : List Str) (xs : List L2.V), ns.length = xs.length → ns.map Val.str = (zipK ns xs).map (fun p => keyV p.1)
  | [], xs, _ => rfl
  | _ :: _, [], h => by cases h
  | n :: ns, x :: xs, h => by
    show Val.str n :: ns.map Val.str = Val.str n :: (zipK ns xs).map _
    rw [zipK_keys ns xs (Nat.succ.inj h)]
theorem zipK_vals : ∀ (ns : List Str) (xs : List L2.V), ns.length = xs.length → (zipK ns xs).map (·.2) = xs
  | [], [], _ => rfl
  | _ :: _, [], h => by cases h
  | [], _ :: _, h => by cases h
  | n :: ns, x :: xs, h => by
    show x :: (zipK ns xs).map (·.2) = x :: xs
    rw [zipK_vals ns xs (Nat.succ.inj h)]
theorem putK_new {kvs : List (L2.Key × L2.V)} {n : L2.Key} {x : L2.V} (h : ∀ p ∈ kvs, p.1 ≠ n) : putK kvs n x = kvs ++ [(n, x)] := by
  unfold putK
  rw [if_neg]
  intro z
  obtain ⟨p, hp, e⟩ := List.any_eq_true.mp z
  exact h p hp (of_decide_eq_true e)
theorem mergeK_new : ∀ (ns : List Str) (xs : List L2.V) (acc : List (L2.Key × L2.V)), ns.Nodup → (∀ n ∈ ns, ∀ p ∈ acc, p.1 ≠ .inr n) → mergeK acc (zipK ns xs) = acc ++ zipK ns xs
  | [], _, acc, _, _ => (List.append_nil acc).symm
  | _ :: _, [], acc, _, _ => (List.append_nil acc).symm
  | n :: ns, x :: xs, acc, nd, h => by
    show mergeK (putK acc (.inr n) x) (zipK ns xs) = acc ++ (.inr n, x) :: zipK ns xs
    rw [putK_new (h n List.mem_cons_self), mergeK_new ns xs _ (List.nodup_cons.mp nd).2, List.append_assoc]
    · rfl
    · intro m hm p hp
      rcases List.mem_append.mp hp with z | z
      · exact h m (List.mem_cons_of_mem _ hm) p z
      · rw [List.mem_singleton.mp z]
        intro e
        injection e with e
        exact (List.nodup_cons.mp nd).1 (e ▸ hm)
/-- what stands for the pairs of a display -/
def PsOf (W : Wd) (X : Cx) (Z : WX) (pos : Pos) (ns : List Str) (keys : List (Option Expr)) (values : List Expr) (me : Ev (List Val)) : Prop :=
  ∃ trs, PPs X pos keys values trs ∧ ∀ σ H (Q : List (L2.V × L2.V) → Hp → Prop), RDs W Z me σ H (fun xs H' => Q (zipS ns xs) H') → tPairs trs σ H Q
theorem ps_of0 {pos : Pos} : PsOf W X Z pos [] [] [] (fun _ h => .ok [] h) := ⟨[], pps_nil, fun σ H Q q => by
  obtain ⟨F, μ, env, h, r, e, a⟩ := q
  exact a F μ H [] r Stp.refl rfl⟩
theorem rdg_at {α β γ : Type} {R : Hp → (Addr → Prop) → List Addr → Hp → α → β → Prop} {m : Ev α} {f : α → Hs → Out γ} {σ : L2.St} {H0 H : Hp} {Q : β → Hp → Prop}
    {F0 F : Addr → Prop} {μ0 μ : List Addr} {env : Env} {h : Hs} {Good : γ → Hs → Prop} (r : RSt W F μ H h) (e : REnv W F μ H env σ) (s : Stp F0 μ0 H0 F μ H)
    (q : Aft ((m env h).bind f) Good (Exq W Z F0 μ0 H0 σ))
    (kk : ∀ v h' F' μ' H' x, RSt W F' μ' H' h' → REnv W F' μ' H' env σ → Stp F μ H F' μ' H' → R H F' μ' H' v x → Aft (f v h') Good (Exq W Z F' μ' H' σ) → Q x H') : RDg W Z R m σ H Q := by
  refine rd_step r e ?_ kk
  cases hm : (m env h).bind f with
  | ok v h' => rw [hm] at q; exact q
  | exc c v h' => rw [hm] at q; exact Exq.trans q s
  | bad => rw [hm] at q; exact q
theorem ps_of1 {pos : Pos} {n : Str} {ns : List Str} {x z : Expr} {keys : List (Option Expr)} {values : List Expr} {m : Ev Val} {ms : Ev (List Val)} (hk : Snd W X Z (fun _ h => .ok (.str n) h) x) (hv : Snd W X Z m z) (hr : PsOf W X Z pos ns keys values ms) :
    PsOf W X Z pos (n :: ns) (some x :: keys) (z :: values) (fun env h => (m env h).bind fun x h => (ms env h).bind fun r h => .ok (x :: r) h) := by
  obtain ⟨trs, p, cv⟩ := hr
  refine ⟨_, pps_cons hk.pe hv.pe p, fun σ H Q q => ?_⟩
  obtain ⟨F, μ, env, h, r, e, a⟩ := q
  show RD W Z (fun _ h => .ok (.str n) h) σ H fun x H1 => RD W Z m σ H1 fun y H2 => tPairs trs σ H2 fun ps H3 => Q ((x, y) :: ps) H3
  refine ⟨F, μ, env, h, r, e, ?_⟩
  intro F' μ' H' xk r0 s0 v0
  have ex : xk = .str n := v0
  subst ex
  refine rdg_at r0 (e.mono s0) s0 a fun v h1 F1 μ1 H1 y r1 e1 s1 v1 a1 => ?_
  refine cv σ H1 _ ?_
  refine rd_step r1 e1 a1 fun w h2 F2 μ2 H2 ys r2 e2 s2 v2 a2 => ?_
  exact a2 F2 μ2 H2 _ r2 ((s0.trans s1).trans s2) ⟨y, ys, rfl, RV.mono s2 v y v1, v2⟩
theorem snd_dsp {pos : Pos} {ns : List Str} {keys : List (Option Expr)} {values : List Expr} {me : Ev (List Val)} (hp : PsOf W X Z pos ns keys values me) (hall : keys.all (·.isSome) = true) (hl : keys.length = values.length) (h0 : keys ≠ []) (h15 : keys.length ≤ 15) (n15 : ns.length ≤ 15)
    (nd : ns.Nodup) (len : ∀ env h vs h', me env h = .ok vs h' → vs.length = ns.length) : Snd W X Z (fun env h => (me env h).bind fun vs h => .ok (.dct (ns.map .str) vs) h) (.Dict keys values pos) := by
  obtain ⟨trs, pp, cv⟩ := hp
  refine .of (PE.imp (pe_disp pp hall hl h0 h15) fun σ H Q q => ?_) rfl
  obtain ⟨F, μ, env, h, r, e, a⟩ := q
  dsimp only at a
  intro p np
  refine cv σ _ _ ?_
  have nF := r.notF np
  have nM := r.notM np
  have sf : Stp F μ H F μ (upd H p (.dK [])) := Stp.fresh np nF
  have rf : RSt W F μ (upd H p (.dK [])) h := r.fresh np
  refine ⟨F, μ, env, h, rf, e.mono sf, ?_⟩
  cases hm : me env h with
  | ok vs h' =>
    have ln := len _ _ _ _ hm
    rw [hm] at a
    intro F2 μ2 H2 xs r2 s2 v2
    have lx : ns.length = xs.length := by rw [← ln]; exact RVs.length v2
    have g2 : H2 p = some (.dK []) := s2.keep p _ upd_same nM
    have nf2 : ¬ F2 p := fun z => by
      rcases s2.fn p z with z | z | ⟨⟨_, z, im⟩, _⟩
      · exact nF z
      · rw [upd_same] at z; cases z
      · rw [upd_same] at z; cases z; exact im
    have nm2 : p ∉ μ2 := fun z => by
      rcases s2.mn p z with z | z
      · exact nM z
      · rw [upd_same] at z; cases z
    refine ⟨g2, zipK ns xs, zipS_K ns xs, Nat.le_trans (zipK_len ns xs) n15, ?_⟩
    rw [mergeK_new ns xs [] nd (fun _ _ _ z => by cases z), List.nil_append]
    refine a (fun a => F2 a ∨ a = p) μ2 _ (.ref p) ((r2.out nf2 nm2).grow (by rw [upd_same]; exact fun z => by cases z) nm2) ((Stp.again r (sf.trans s2) np nf2 (by rw [g2]; exact fun z => by cases z)).freeze np) ?_
    refine ⟨p, zipK ns xs, rfl, .inr rfl, upd_same, zipK_keys ns xs lx, ?_⟩
    rw [zipK_vals ns xs lx]
    exact RVs.grow _ _ (RVs.out nf2 _ _ v2)
  | exc c v h' =>
    rw [hm] at a
    exact Exq.trans a sf
  | bad =>
    rw [hm] at a
    exact a.elim
end
end Pyi
set_option Elab.async false
set_option linter.all false
set_option maxRecDepth 100000
set_option maxHeartbeats 4000000
/-! sorted(set(xs)) of a list of ints. -/
namespace Pyi
open PySem PySem.Spec PyProof.Rows L2
/-- a set without members, a walk over a list -/
abbrev bareSet (w : World) : Obj := { cls := .type "set", dict := none, data := .set #[] 0 (.fresh 0 0 (!w.params.followText "set-order")) }
abbrev walkO (l : Addr) : Obj := { cls := .type "list_iterator", data := .fields #[.ref l, .int 0 0] }
section
variable {P : Program} {w : World} {A : Around} {E : Value → Shared → Prop} {s : Shared}
theorem set_walk {l : Addr} {its : Array Value} (ns : List Int) {R : Result → Shared → Prop} (nh : A.handled = none) (hl : s.heap.IsList l its) (hi : IntsAre its.toList ns) (hb : ns.length + 1 < scanBound)
    (k : ∀ (h' : Heap) (tk c : Nat), SetR w h' s.heap.objs.size (fun j => decide (j ∈ ns)) c → c ≤ ns.length → (∀ b o, s.heap.get? b = some o → h'.get? b = some o) → R (.ok (.ret .none)) { s with heap := h', toks := tk }) :
    codeAny (model P w) A (.builtin "set.update.loop" ⟨[.ref s.heap.objs.size, .ref (s.heap.push (bareSet w)).objs.size], []⟩) R { s with heap := (s.heap.push (bareSet w)).push (walkO l) } := by
  have n1 : its.size = ns.length := (Array.length_toList (xs := its)).symm.trans (IntsAre.length hi)
  have w1 := hl.push (bareSet w)
  have z1 : (s.heap.push (bareSet w)).objs.size = s.heap.objs.size + 1 := Heap.size_push ..
  have up : ∀ b : Addr, b < s.heap.objs.size → b ≠ (s.heap.push (bareSet w)).objs.size := fun b q => by
    rw [z1]
    exact Nat.ne_of_lt (Nat.lt_succ_of_lt q)
  have lt : l < s.heap.objs.size := by
    obtain ⟨ol, hol, _⟩ := hl
    exact Heap.lt_size hol
  have n3 : s.heap.objs.size ∉ [(s.heap.push (bareSet w)).objs.size, l] := fun m => by
    rcases List.mem_cons.mp m with e | e
    · rw [z1] at e
      exact Nat.ne_of_lt (Nat.lt_succ_self _) e
    · exact Nat.ne_of_gt lt (List.mem_singleton.mp e)
  refine set_update_ints ((Walks.list (A := A.in1) nh _ l (up l lt) its).toS) _ n3 ns n1 hb (fun i v e => ?_) (its.size - 0) 0 _ rfl (Nat.zero_le _) ⟨⟨_, Heap.get?_push_size _ rfl, rfl, rfl⟩, w1.push _⟩ ⟨0, Nat.le_refl 0, setR_new_at (Heap.get?_push_of_some _ (Heap.get?_push_size _ rfl))⟩ fun s2 c mv cl rs => ?_
  · have il : i < ns.length := by
      rw [← n1]
      exact (Array.getElem?_eq_some_iff.mp e).1
    obtain ⟨t, e2⟩ := IntsAre.int_at hi i v (by rw [Array.getElem?_toList]; exact e)
    exact ⟨ns[i], t, List.getElem?_eq_getElem il, by rw [e2, List.getD_eq_getElem?_getD, List.getElem?_eq_getElem il]; rfl⟩
  · obtain ⟨h2, g2, d2, t2, o2⟩ := s2
    obtain rfl : g2 = s.gens := mv.gens
    obtain rfl : d2 = s.drawn := mv.drawn
    obtain rfl : o2 = s.os := mv.os
    refine k h2 t2 c rs (n1 ▸ cl) fun b o e => ?_
    have lb := Heap.lt_size e
    refine mv.heap b o (fun m => ?_) (Heap.get?_push_of_some _ (Heap.get?_push_of_some _ e))
    rcases List.mem_cons.mp m with q | q
    · exact Nat.ne_of_lt lb q
    · exact up b lb (List.mem_singleton.mp q)
theorem set_call {l : Addr} {its : Array Value} (ns : List Int) {Q : Value → Shared → Prop} (nh : A.handled = none) (hl : s.heap.IsList l its) (hi : IntsAre its.toList ns) (hb : ns.length + 1 < scanBound)
    (k : ∀ (h' : Heap) (tk c : Nat), SetR w h' s.heap.objs.size (fun j => decide (j ∈ ns)) c → c ≤ ns.length → (∀ b o, s.heap.get? b = some o → h'.get? b = some o) → Q (.ref s.heap.objs.size) { s with heap := h', toks := tk }) :
    wpAny (model P w) A (call (.type "set") [.ref l]) Q E s := by
  have fs := PySem.F.called_set
  obtain ⟨mc, mt, hmro⟩ := fs.mro
  have f1 := fs.made
  have f2 := fs.sub
  have f3 := fs.notType
  have f4 := fs.canCreate
  have f5 := PySem.F.typeCall_set_1 (.ref l)
  refine wpAny_call (codeAny_of_tree (show wpAny _ _ (callAny (.type "set") _) _ _ _ from wpAny_pure ⟨Code.quiet_builtin _ (by decide +kernel), codeAny_builtin PySem.F.entry_type_call ?_⟩))
  rw [Around.under_plain (weight_type_call_type "set" [.ref l] []) rfl]
  repeat' (first | wp_step | assumption)
  refine codeAny_mono (code_set_led1 (.ref l) (E := E) (Q₁ := fun v t => v = .ref s.heap.objs.size ∧ t = { s with heap := s.heap.push (bareSet w) }) ⟨rfl, rfl⟩) fun r1 t1 q1 => ?_
  match r1, q1 with
  | .error _, q1 => exact q1
  | .ok .next, q1 => exact q1.elim
  | .ok .brk, q1 => exact q1.elim
  | .ok .cont, q1 => exact q1.elim
  | .ok (.ret v), q1 =>
    obtain ⟨rfl, rfl⟩ := q1
    have at0 : (s.heap.push (bareSet w)).get? s.heap.objs.size = some (bareSet w) := Heap.get?_push_size _ rfl
    have ty : Shared.TypeIs { s with heap := s.heap.push (bareSet w) } (.ref s.heap.objs.size) "set" := ⟨_, at0, rfl⟩
    have g1 := fs.init.lookup
    have g2 := fs.init.bind (.ref s.heap.objs.size)
    repeat' (first | wp_step | assumption)
    refine codeAny_mono (codeAny_call_builtin (R := wants (fun r t => r = .none ∧ ∃ h' tk c, t = { s with heap := h', toks := tk } ∧ SetR w h' s.heap.objs.size (fun j => decide (j ∈ ns)) c ∧ c ≤ ns.length ∧
      (∀ b o, s.heap.get? b = some o → h'.get? b = some o)) E) fs.init.plain PySem.F.entry_set_init (check_set_init_1 ty ?_)) fun r2 t2 q2 => ?_
    · have w1 := hl.push (bareSet w)
      obtain ⟨⟨oc, od, oda, osl⟩, hol, hoc, nl, hod⟩ := hl
      dsimp only at hoc hod
      subst hoc
      subst hod
      have at1 : (s.heap.push (bareSet w)).get? l = some { cls := .type "list", dict := od, data := .seq its nl, slots := osl } := Heap.get?_push_of_some _ hol
      have b1 := PySem.F.sub_list_set
      have b2 := PySem.F.sub_list_frozenset
      have b3 : (Value.type "list" == Value.type "dict") = false := by decide
      unfold Builtin.«set.__init__» noKeywords Builtin.Frozenset.updateFrom
      generalize hy : pyIter = py
      wp_walk
      subst hy
      refine wpAny_pyIter_list w1 (wpAny_bind (wpAny_runValue ?_))
      refine set_walk (R := _) ns (by simp [nh]) ⟨_, hol, rfl, nl, rfl⟩ hi hb fun h' tk c rs cl kp => ?_
      show wpAny _ _ _ _ _ _
      refine wpAny_pure ?_
      show wpAny _ _ (ret Value.none) _ _ _
      exact wpAny_pure ⟨rfl, h', tk, c, rfl, rs, cl, kp⟩
    · match r2, q2 with
      | .error _, q2 => exact q2
      | .ok .next, q2 => exact q2.elim
      | .ok .brk, q2 => exact q2.elim
      | .ok .cont, q2 => exact q2.elim
      | .ok (.ret v), q2 =>
        obtain ⟨rfl, h', tk, c, rfl, rs, cl, kp⟩ := q2
        repeat' (first | wp_step | assumption)
        exact k _ _ _ rs cl kp
end
end Pyi
set_option Elab.async false
set_option linter.all false
set_option maxRecDepth 100000
set_option maxHeartbeats 4000000
/-! sorted(set(xs)), tuple(d.items()), d.get(k, x) of a dict of the frame's own, a dict with a key otherwise. -/
namespace Pyi
open PySem PySem.Spec PyProof.Rows L2
/-! ### sorting -/
theorem insI_mem (x : Int) : ∀ (l : List Int) (k : Int), k ∈ insI x l ↔ k = x ∨ k ∈ l
  | [], k => by simp [insI]
  | y :: r, k => by
    unfold insI
    split
    · simp
    · split
      · rename_i h1 h2
        subst h2
        simp
      · rw [List.mem_cons, insI_mem x r k, List.mem_cons]
        constructor
        · rintro (h | h | h)
          · exact .inr (.inl h)
          · exact .inl h
          · exact .inr (.inr h)
        · rintro (h | h | h)
          · exact .inr (.inl h)
          · exact .inl h
          · exact .inr (.inr h)
theorem insI_asc (x : Int) : ∀ (l : List Int), l.Pairwise (· < ·) → (insI x l).Pairwise (· < ·)
  | [], _ => by simp [insI]
  | y :: r, h => by
    obtain ⟨h1, h2⟩ := List.pairwise_cons.mp h
    unfold insI
    split
    · rename_i hx
      refine List.pairwise_cons.mpr ⟨fun z hz => ?_, h⟩
      rcases List.mem_cons.mp hz with e | e
      · rw [e]; exact hx
      · have := h1 z e
        omega
    · split
      · exact h
      · rename_i n1 n2
        refine List.pairwise_cons.mpr ⟨fun z hz => ?_, insI_asc x r h2⟩
        rcases (insI_mem x r z).mp hz with e | e
        · omega
        · exact h1 z e
theorem sortI_mem : ∀ (l : List Int) (k : Int), k ∈ sortI l ↔ k ∈ l
  | [], k => by simp [sortI]
  | x :: r, k => by
    show k ∈ insI x (sortI r) ↔ _
    rw [insI_mem, sortI_mem r k, List.mem_cons]
theorem sortI_asc : ∀ (l : List Int), (sortI l).Pairwise (· < ·)
  | [] => List.Pairwise.nil
  | x :: r => insI_asc x _ (sortI_asc r)
theorem asc_uniq : ∀ (l m : List Int), l.Pairwise (· < ·) → m.Pairwise (· < ·) → (∀ k, k ∈ l ↔ k ∈ m) → l = m
  | [], [], _, _, _ => rfl
  | [], y :: m, _, _, h => absurd ((h y).mpr List.mem_cons_self) (by simp)
  | x :: l, [], _, _, h => absurd ((h x).mp List.mem_cons_self) (by simp)
  | x :: l, y :: m, hl, hm, h => by
    obtain ⟨l1, l2⟩ := List.pairwise_cons.mp hl
    obtain ⟨m1, m2⟩ := List.pairwise_cons.mp hm
    have e : x = y := by
      rcases List.mem_cons.mp ((h x).mp List.mem_cons_self) with e | e
      · exact e
      · rcases List.mem_cons.mp ((h y).mpr List.mem_cons_self) with e2 | e2
        · exact e2.symm
        · have a := m1 x e
          have b := l1 y e2
          omega
    subst e
    rw [asc_uniq l m l2 m2 fun k => ?_]
    have hk := h k
    rw [List.mem_cons, List.mem_cons] at hk
    constructor
    · intro q
      rcases hk.mp (.inr q) with e | e
      · have := l1 k q
        omega
      · exact e
    · intro q
      rcases hk.mpr (.inr q) with e | e
      · have := m1 k q
        omega
      · exact e
section
variable {U : Nat → Option Def} {W : Wd} {L : Lk} {k : Nat} {N : List Str} {sc ow : Scope} {X : Cx} {Z : WX}
/-- set(xs), ints, fewer than 64 -/
def rSetOfL (K : PySem.W.Frag) (w : World) : List V → Hp → VK → Prop := fun xs H Q => ∃ (l : Addr) (ns : List Int), xs = [.ref l] ∧ SqL K H l (ns.map V.int) ∧ ns.length < 64 ∧
  ∀ p c, H p = none → c ≤ ns.length → Q (.ref p) (upd H p (SetO w p (fun j => decide (j ∈ ns)) c))
theorem cr_setL (hc : X.calm = true) : CallR X (.type "set") (rSetOfL X.K X.w) := by
  intro pins s σ H xs us Q I r h
  obtain ⟨l, ns, rfl, hs, h64, q⟩ := h
  obtain ⟨u, rfl, ru⟩ := vals1 r
  cases ru
  obtain ⟨its, rv, pl, hz⟩ := I.list hs
  refine set_call ns (I.ok.hd hc) pl.isList (by simpa using rv.ints) (by unfold scanBound; omega) fun h' tk c R cl kp => ?_
  exact ⟨.ref _, upd H s.heap.objs.size (SetO X.w s.heap.objs.size (fun j => decide (j ∈ ns)) c), I.laid (t' := tk) kp (Nat.le_refl _) (setO_new R), rfl, q _ c (I.hok.fresh (Nat.le_refl _)) cl⟩
theorem boot_set : bootBuiltins "set" = some (.type "set") := by decide +kernel
theorem boot_sorted : bootBuiltins "sorted" = some (.builtin "sorted") := by decide +kernel
theorem snd_sset {ma : Ev Val} {z y1 y2 : Expr} (hy : Hyp U W L k) (g : Gd W k N sc ow X Z) (hg1 : gnameIs sc "sorted" y1 = true) (hg2 : gnameIs sc "set" y2 = true) (hn : notStar z = true) (ha : Snd W X Z ma z) (pos p2 : Pos) :
    PE X (.Call y1 [.Call y2 [z] [] p2] [] pos) (RDf W Z fun env h => (ma env h).bind fun x h => ofOpt (setL x) h) := by
  obtain ⟨p, rfl, hgl, hdb⟩ := g.gl hg1
  obtain ⟨q, rfl, hgl2, hdb2⟩ := g.gl hg2
  refine PE.imp (pe_callB (cr_sortedSet g.calm) hgl (g.mgN hy (by decide +kernel)) boot_sorted (pa_cons (pe_callTy (cr_setL g.calm) hgl2 (g.mgN hy (by decide +kernel)) boot_set (pa_cons ha.pe pa_nil (star_cons hn)) (by decide) hdb2 (star_cons hn) (star_plain rfl)) pa_nil (star_cons rfl)) (by decide) hdb (star_cons rfl) (star_plain rfl)) fun σ H Q q => ?_
  obtain ⟨F, μ, env, h, r, e, m⟩ := q
  show RD W Z ma σ H fun x H1 => rSetOfL X.K X.w [x] H1 fun y H2 => rSortedSet X.w [y] H2 Q
  refine rd_step r e m fun v h' F1 μ1 H1 x r1 e1 s1 v1 m1 => ?_
  obtain ⟨vs, ev, kk⟩ := aft_opt m1
  cases v with
  | lst ws =>
    obtain ⟨ns, e2, e3⟩ := Option.bind_eq_some_iff.mp (show (intsOf ws).bind (fun ns => if ns.length < 64 then some ((sortI ns).map Val.int) else none) = some vs from ev)
    by_cases h64 : ns.length < 64
    · rw [if_pos h64] at e3
      cases e3
      obtain ⟨a, ys, rfl, t, q1, _, _⟩ := seqL v1
      have ey := RVs.ofInts e2 q1
      subst ey
      refine ⟨a, ns, rfl, by rw [g.eK]; exact t, h64, fun p c np cl => ⟨p, _, _, rfl, upd_same, by omega, fun ns' l asc mem len nl => ?_⟩⟩
      have es : ns' = sortI ns := asc_uniq _ _ asc (sortI_asc ns) fun k => by
        rw [mem k, sortI_mem]
        simp
      subst es
      have lp : l ≠ p := fun z => by rw [z, upd_same] at nl; cases nl
      have nl1 : H1 l = none := (upd_ne lp).symm.trans nl
      have r2 := r1.fresh (o := SetO X.w p (fun j => decide (j ∈ ns)) c) np
      have s2 := Stp.fresh (F := F1) (μ := μ1) (o := SetO X.w p (fun j => decide (j ∈ ns)) c) np (r1.notF np)
      have nl2 : upd H1 p (SetO X.w p (fun j => decide (j ∈ ns)) c) l = none := nl
      have r3 := r2.fresh (o := .lst ((sortI ns).map V.int)) nl2
      have s3 := Stp.fresh (F := F1) (μ := μ1) (o := .lst ((sortI ns).map V.int)) nl2 (r2.notF nl2)
      exact kk F1 μ1 _ (.ref l) r3 (s1.trans (s2.trans s3)) ⟨l, _, rfl, none_back s1 nl1, r1.notF nl1, r1.notM nl1, upd_same, RVs.ints⟩
    · rw [if_neg h64] at e3
      cases e3
  | _ => cases ev
/-! ### d.get(k, x), d a dict of the frame's own -/
theorem dget_relT {F : Addr → Prop} {μ : List Addr} {H : Hp} (kk : List L2.Key) : ∀ {kvs : List (List L2.Key × L2.V)} {vs : List Val}, RVs W F μ H vs (kvs.map (·.2)) →
    (match dget (kvs.map fun p => keyW p.1) vs (keyW kk) with
      | some v => ∃ x, valV kvs kk = some x ∧ RV W F μ H v x
      | none => valV kvs kk = none)
  | [], vs, r => by cases vs <;> rfl
  | p :: kvs, vs, r => by
    cases vs with
    | nil =>
      have e : _ = [] := r
      cases e
    | cons v vs =>
      obtain ⟨x, xr, e, h1, h2⟩ := r
      injection e with e1 e2
      have ih := dget_relT kk (kvs := kvs) (vs := vs) (by rw [e2]; exact h2)
      show (match (if keyEq (keyW p.1) (keyW kk) then some v else dget (kvs.map fun p => keyW p.1) vs (keyW kk)) with
        | some v => ∃ x, valV (p :: kvs) kk = some x ∧ RV W F μ H v x
        | none => valV (p :: kvs) kk = none)
      have ev : valV (p :: kvs) kk = if p.1 = kk then some p.2 else valV kvs kk := by
        unfold valV
        rw [List.find?_cons]
        by_cases hk : p.1 = kk
        · simp [hk]
        · simp [hk]
      rw [keyEq_key, ev]
      by_cases hk : p.1 = kk
      · rw [decide_eq_true hk, if_pos rfl, if_pos hk]
        exact ⟨p.2, rfl, by rw [show p.2 = x from e1]; exact h1⟩
      · rw [decide_eq_false hk, if_neg Bool.false_ne_true, if_neg hk]
        exact ih
theorem snd_oget {i : Nat} {mk me : Ev Val} {o z z2 : Expr} {ap pos : Pos} (g : Gd W k N sc ow X Z) (hx : nameIs N sc i o = true) (hl : (ap.endLine == pos.line) = true) (h1 : notStar z = true) (h2 : notStar z2 = true) (hk : Snd W X Z mk z) (he : Snd W X Z me z2) :
    Snd W X Z (fun env h => (ofOpt (ownDL env i) h).bind fun d h => (mk env h).bind fun y h => (me env h).bind fun z h => if keyT y then .ok ((dget d.1 d.2 y).getD z) h else .bad) (.Call (.Attribute o "get" ap) [z, z2] [] pos) := by
  obtain ⟨zz, p2, rfl, hN, hv, q1, q2⟩ := g.vis hx
  refine .of (PE.imp (pe_dget2 (by have := g.units; omega) (pe_var hN hv q1 q2) hk.pe he.pe (m2_get rfl hl h1 h2 _)) fun σ H Q q => ?_) rfl
  obtain ⟨F, μ, env, h, r, e, m⟩ := q
  dsimp only at m
  cases ho : ownDL env i with
  | none =>
    rw [ho] at m
    exact m.elim
  | some d =>
    rw [ho] at m
    obtain ⟨v, e1, b, kvs, rfl, gb, nfb, nmb, ek, rv⟩ := e.sl i _ (ownD_some0 ho)
    refine ⟨.ref b, e1, b, rfl, .inr ⟨kvs, .inl gb⟩, ?_⟩
    show RD W Z mk σ H fun y H2 => RD W Z me σ H2 fun z H3 => ∃ o, DGet H3 b y o ∧ Q (o.getD z) H3
    refine rd_step r e m fun w h2 F2 μ2 H2 y r2 e2 s2 v2 m2 => rd_step r2 e2 m2 fun w2 h3 F3 μ3 H3 y2 r3 e3 s3 v3 m3 => ?_
    by_cases hf : keyT w = true
    · rw [if_pos hf] at m3
      have v2' := RV.mono s3 _ _ v2
      obtain ⟨c, ks, ew, rfl, fc, gc⟩ := key_of_T hf v2'
      obtain ⟨x3, e3', b3, kvs3, ex3, gb3, nf3, nm3, ek3, rv3⟩ := e3.sl i _ (ownD_some0 ho)
      rw [e1] at e3'
      cases e3'
      cases ex3
      have dr := dget_relT (W := W) ks rv3
      refine ⟨valV kvs3 ks, DGet.t gb3 gc, ?_⟩
      have m3' : ∀ F' μ' H' x, RSt W F' μ' H' h3 → Stp F3 μ3 H3 F' μ' H' → RV W F' μ' H' ((dget d.1 d.2 w).getD w2) x → Q x H' := fun F' μ' H' x r' s' rv' => m3 F' μ' H' x r' (s2.trans (s3.trans s')) rv'
      have ed : dget d.1 d.2 w = dget (kvs3.map fun p => keyW p.1) d.2 (keyW ks) := by rw [ek3, ew]
      rw [ed] at m3'
      cases hg : dget (kvs3.map fun p => keyW p.1) d.2 (keyW ks) with
      | some v =>
        rw [hg] at dr m3'
        obtain ⟨x3, e4, rx3⟩ := dr
        rw [e4]
        exact m3' F3 μ3 H3 _ r3 Stp.refl rx3
      | none =>
        rw [hg] at dr m3'
        rw [show valV kvs3 ks = none from dr]
        exact m3' F3 μ3 H3 _ r3 Stp.refl v3
    · rw [if_neg hf] at m3
      exact m3.elim
end
end Pyi
set_option Elab.async false
set_option linter.all false
set_option maxRecDepth 100000
set_option maxHeartbeats 4000000
/-! tuple(d.items()) -/
namespace Pyi
open PySem PySem.Spec PyProof.Rows L2
open Sem (wp)
theorem tupnew_view (r d : Addr) (es : Array DictEntry) (ep : Nat) (hz : es.size ≤ sizeLine) :
    Meets (Builtin.«tuple.__new__» ⟨[.type "tuple", .ref r], []⟩)
      (fun A R s => A.handled = none ∧ s.heap.IsItemsView r d ∧ s.heap.DictRaw d es ep ∧ ∀ (h' : Heap) (tk : Nat) (as : List Addr), (∀ b o, s.heap.get? b = some o → h'.get? b = some o) → as.length = es.size → PySem.W.DilG es s.heap.objs.size h' as →
        R (.ok (.ret (.ref h'.objs.size))) { s with heap := h'.push { cls := .type "tuple", data := .seq (as.map Value.ref).toArray }, toks := tk }) :=
  .of_wp fun prog w A R s h => by
    obtain ⟨nh, vw, dr, h⟩ := h
    have b1 := sub_tuple_self
    have b2 := init_tuple_lookup
    have b3 := madeHere_tuple
    have ty : s.TypeIs (.ref r) "dict_items" := vw.typeIs
    have nh1 : A.in1.handled = none := nh
    wp_walk using wpAny_typeOf ty, PySem.W.dil_collect (es := es) (ep := ep) nh1 vw dr hz
    intro h' tk as kp ln G
    show wpAny _ _ (Builtin.Tuple.tupleExact (as.map Value.ref).toArray >>= fun v => ret v) _ _ _
    unfold Builtin.Tuple.tupleExact
    refine wpAny_bind (wpAny_newObj_type ?_ (by show (as.map Value.ref).toArray.size ≤ sizeLine; rw [List.size_toArray, List.length_map, ln]; exact hz))
    exact wpAny_pure ⟨_, rfl, h h' tk as kp ln G⟩
section
variable {prog : Program} {w : World} {A : Around} {E : Value → Shared → Prop} {s : Shared}
theorem tup_view {r d : Addr} {es : Array DictEntry} {ep : Nat} {Q : Value → Shared → Prop} (nh : A.handled = none) (vw : s.heap.IsItemsView r d) (dr : s.heap.DictRaw d es ep) (hz : es.size ≤ sizeLine)
    (k : ∀ (h' : Heap) (tk : Nat) (as : List Addr), (∀ b o, s.heap.get? b = some o → h'.get? b = some o) → as.length = es.size → PySem.W.DilG es s.heap.objs.size h' as →
      Q (.ref h'.objs.size) { s with heap := h'.push { cls := .type "tuple", data := .seq (as.map Value.ref).toArray }, toks := tk }) :
    wpAny (model prog w) A (call (.type "tuple") [.ref r]) Q E s := by
  refine callType_new PySem.F.called_tuple (by decide) (PySem.F.typeCall_tuple_1 _) (PySem.F.newCall_tuple_1 _) (fun obj => PySem.F.args_object_init_2 obj _) PySem.F.entry_tuple_new
    (tupnew_view r d es ep hz) ⟨nh, vw, dr, fun h' tk as kp ln G => ⟨⟨_, Heap.get?_push_size _ rfl, rfl⟩, k h' tk as kp ln G⟩⟩
end
section
variable {U : Nat → Option Def} {W : Wd} {L : Lk} {k : Nat} {N : List Str} {sc ow : Scope} {X : Cx} {Z : WX}
/-- what is known of the pairs laid: ts their tuples, l what holds them -/
structure PairsAt (H G : Hp) (kvs : List (List L2.Key × L2.V)) (ts : List Addr) : Prop where
  keep : ∀ b o, H b = some o → G b = some o
  new : ∀ t ∈ ts, H t = none
  nd : ts.Nodup
  len : ts.length = kvs.length
  item : ∀ (j : Nat) (t : Addr), ts[j]? = some t → ∃ q b, kvs[j]? = some q ∧ H b = some (.tup (q.1.map kV)) ∧ G t = some (.tup [.ref b, q.2])
def rTupIt : List V → Hp → VK → Prop := fun xs H Q => ∃ (p d : Addr) (kvs : List (List L2.Key × L2.V)), xs = [.ref p] ∧ H p = some (L2.DX.itemsO p d) ∧ H d = some (.dT kvs) ∧
  ∀ (G : Hp) (l : Addr) (ts : List Addr), PairsAt H G kvs ts → H l = none → l ∉ ts → G l = some (.tup (ts.map V.ref)) → Q (.ref l) G
theorem call_tupIt (hc : X.calm = true) : CallR X (.type "tuple") rTupIt := by
  intro pins s σ H xs us Q I r h
  obtain ⟨p, d, kvs, rfl, hp, hd, q⟩ := h
  obtain ⟨u, rfl, rx⟩ := vals1 r
  cases rx
  obtain ⟨view, _⟩ := (show ObjOk X.prog X.w H s.heap p (L2.DX.itemsO p d) from I.hok p _ hp)
  obtain ⟨z, _, ks, rel, o, es, ep, ho, hx, hdat, hes, his, _⟩ := dt_of I.hok hd
  have len : kvs.length = ks.length := Paired.length rel
  have sz : es.size = ks.length := by rw [← Array.length_toList, hes, List.length_map]
  refine tup_view (es := es) (ep := ep) (I.ok.hd hc) view ⟨o, ho, hx, hdat⟩ (by rw [sz, ← len]; exact z) fun h' tk as keep ln G => ?_
  have nd : as.Nodup := G.rise.imp fun {a b} (h : a < b) => Nat.ne_of_lt h
  have new : ∀ t ∈ as, H t = none := fun t ht => I.hok.fresh (Nat.le_of_lt (G.above t ht))
  let vs : List (List V) := (kvs.zip ks).map fun x => [V.ref x.2.2.1, x.1.2]
  have lvs : as.length = vs.length := by rw [ln, sz, List.length_map, List.length_zip, len, Nat.min_self]
  let H1 := DTu.putL H as vs
  have off : ∀ b, b ∉ as → H1 b = H b := fun b h1 => DTu.putL_off as vs _ h1
  have kp : ∀ b u, H b = some u → H1 b = some u := fun b u e => (off b fun y => by rw [new b y] at e; cases e).trans e
  have item : ∀ (j : Nat) (t : Addr), as[j]? = some t → ∃ q x, kvs[j]? = some q ∧ ks[j]? = some x ∧ H x.2.1 = some (.tup (q.1.map kV)) ∧ RelV q.2 x.2.2 ∧ H1 t = some (.tup [.ref x.2.1, q.2]) ∧ h'.get? t = some { cls := .type "tuple", data := .seq #[.ref x.2.1, x.2.2] } := by
    intro j t e
    obtain ⟨v, e1, e2⟩ := DTu.putL_at as vs H lvs nd j t e
    have e1' : ((kvs.zip ks)[j]?).map (fun x => [V.ref x.2.2.1, x.1.2]) = some v := by rw [← List.getElem?_map]; exact e1
    obtain ⟨y, e3, e4⟩ := Option.map_eq_some_iff.mp e1'
    obtain ⟨g1, g2⟩ := List.getElem?_zip_eq_some.mp e3
    obtain ⟨x2, g3, r1, r2, r3⟩ := LiI.paired_get rel g1
    rw [g2] at g3
    cases g3
    obtain ⟨hj, g4⟩ := G.pairs j t e
    have g5 : es[j]? = some (entryOfKey (tupleKind (mixKind X.prog X.w)) y.2) := by rw [entry_at hes j, g2]; rfl
    rw [Array.getElem?_eq_getElem hj] at g5
    have g6 := Option.some.inj g5
    refine ⟨y.1, y.2, g1, g2, by rw [r2], r3, (by rw [e4]; exact e2), ?_⟩
    rw [g4, g6]
    rfl
  have low : ∀ b o, s.heap.get? b = some o → b ∉ as := fun b o e y => absurd (Heap.lt_size e) (Nat.not_lt.mpr (Nat.le_of_lt (G.above b y)))
  have I1 : Inv X pins σ H1 { s with heap := h', toks := tk } := by
    refine I.call' (ch := []) rfl ⟨fun b o q _ _ _ => keep b o q, fun b o q _ _ _ => ⟨o.slots, keep b o q⟩, fun b o q n _ => ?_, fun b o q _ => ⟨o, keep b o q⟩, fun b xs q => kp b _ q, fun b o u q => kp b _ q, fun b ps q => ⟨#[], by rw [kp b _ q]; simp⟩⟩ (fun b u q => ?_) I.bare fun b z => by simp at z
    · rw [off b (low b o q)]
      exact n
    · by_cases hb : b ∈ as
      · obtain ⟨j, hj, ej⟩ := List.mem_iff_getElem.mp hb
        obtain ⟨q1, x, _, _, _, r3, e2, e3⟩ := item j b (by rw [List.getElem?_eq_getElem hj, ej])
        rw [e2] at q
        cases q
        exact ⟨by show 2 ≤ sizeLine; decide, [.ref x.2.1, x.2.2], .cons rfl (.cons r3 .nil), ⟨_, e3, rfl, _, rfl⟩⟩
      · rw [off b hb] at q
        exact (I.hok b u q).stay (fun d v _ y => keep d v y) (fun d y => kp d _ y) fun d xs y => kp d _ y
  have nl : h'.objs.size ∉ as := fun m => by
    obtain ⟨j, hj, ej⟩ := List.mem_iff_getElem.mp m
    obtain ⟨_, _, _, _, _, _, _, e⟩ := item j h'.objs.size (by rw [List.getElem?_eq_getElem hj, ej])
    exact Nat.lt_irrefl _ (Heap.lt_size e)
  have n1 : H1 h'.objs.size = none := I1.hok.fresh (Nat.le_refl _)
  have I2 : Inv X pins σ (upd H1 h'.objs.size (.tup (as.map V.ref))) { s with heap := h'.push { cls := .type "tuple", data := .seq (as.map Value.ref).toArray }, toks := tk } :=
    I1.laid (t' := tk) (fun b o e => Heap.get?_push_of_some _ e) (Nat.le_refl _) (show ObjOk X.prog X.w _ _ _ (.tup (as.map V.ref)) from ⟨by rw [List.length_map, ln, sz, ← len]; exact z, as.map Value.ref, LiI.vals_refs as, IsTup.new _ _⟩)
  have n0 : H h'.objs.size = none := (off _ nl).symm.trans n1
  refine ⟨.ref h'.objs.size, _, I2, rfl, q _ _ as ⟨fun b o e => (upd_ne (ne_of_none e n0)).trans (kp b o e), new, nd, by rw [ln, sz, len], fun j t e => ?_⟩ n0 nl upd_same⟩
  obtain ⟨q1, x, e1, _, e2, _, e3, _⟩ := item j t e
  exact ⟨q1, x.2.1, e1, e2, (upd_ne fun y => by rw [y, n1] at e3; cases e3).trans e3⟩
theorem pairs_st {F : Addr → Prop} {μ : List Addr} {H G : Hp} {h : Hs} {kvs : List (List L2.Key × L2.V)} {ts : List Addr} {ks vs : List Val} (r : RSt W F μ H h) (p : PairsAt H G kvs ts) (ek : ks = kvs.map fun p => Val.tup (p.1.map keyV)) (rv : RVs W F μ H vs (kvs.map (·.2))) :
    ∃ F', RSt W F' μ G h ∧ Stp F μ H F' μ G ∧ (∀ l, F' l → F l ∨ l ∈ ts ∨ H l ≠ none) ∧ RVs W F' μ G (zipV ks vs) (ts.map V.ref) := by
  let F' : Addr → Prop := fun c => F c ∨ c ∈ ts ∨ ∃ ns : List L2.Key, H c = some (.tup (ns.map kV))
  have fzH : ∀ c, F c → G c = H c := fun c f => by
    cases hc : H c with
    | none => exact absurd hc (r.lf c f)
    | some o => exact p.keep c o hc
  have mu0 : ∀ c, c ∈ μ → ∀ xs, H c ≠ some (.tup xs) := fun c hc xs z => by
    obtain ⟨n, hn⟩ := List.getElem?_of_mem hc
    have hlt : n < h.length := by rw [← r.len]; exact (List.getElem?_eq_some_iff.mp hn).1
    have q := r.ob n _ c (List.getElem?_eq_getElem hlt) hn
    generalize h[n] = ob at q
    cases ob with
    | lst vs =>
      obtain ⟨ys, g, _⟩ := q
      rw [g] at z
      cases z
    | ins cc ns vs =>
      obtain ⟨dx, fs, g, _⟩ := q
      rw [g] at z
      cases z
  have muG : ∀ c, c ∈ μ → G c = H c := fun c hc => by
    cases hh : H c with
    | none => exact absurd hh (r.lm c hc)
    | some o => exact p.keep c o hh
  have mon : Mon F μ H F' μ G := ⟨fun _ f => .inl f, fun _ _ z => z, fzH⟩
  refine ⟨F', ⟨r.len, r.nd, fun n o c h1 h2 => RObj.mon mon (muG c (List.mem_of_getElem? h2)) (r.ob n o c h1 h2), fun c hc f => ?_, fun c hc => by rw [muG c hc]; exact r.lm c hc, fun c f => ?_⟩,
    ⟨fun _ f => .inl f, ⟨[], (List.append_nil μ).symm⟩, fzH, fun c o e _ => p.keep c o e, fun c f => ?_, fun _ f => .inl f, fun c e => ?_⟩, fun l f => ?_, ?_⟩
  · rcases f with f | f | ⟨ns, f⟩
    · exact r.nf c hc f
    · exact r.lm c hc (p.new c f)
    · exact mu0 c hc _ f
  · rcases f with f | f | ⟨ns, f⟩
    · rw [fzH c f]; exact r.lf c f
    · obtain ⟨j, hj, ej⟩ := List.mem_iff_getElem.mp f
      obtain ⟨q, bb, _, _, e3⟩ := p.item j c (by rw [List.getElem?_eq_getElem hj, ej])
      rw [e3]
      exact fun z => by cases z
    · rw [p.keep c _ f]
      exact fun z => by cases z
  · rcases f with f | f | ⟨ns, f⟩
    · exact .inl f
    · exact .inr (.inl (p.new c f))
    · exact .inr (.inr ⟨⟨_, f, True.intro⟩, fun hc => mu0 c hc _ f⟩)
  · cases hh : H c with
    | none => exact absurd hh e
    | some o => rw [p.keep c o hh]; exact fun z => by cases z
  · rcases f with f | f | ⟨ns, f⟩
    · exact .inl f
    · exact .inr (.inl f)
    · exact .inr (.inr (by rw [f]; exact fun z => by cases z))
  · have lk : ks.length = kvs.length := by rw [ek, List.length_map]
    have lv : vs.length = kvs.length := by rw [RVs.length rv, List.length_map]
    refine RVs.ofGet (by rw [zipV_len (lk.trans lv.symm), List.length_map, p.len, lk]) fun j v x ev ex => ?_
    obtain ⟨kj, vj, g1, g2, rfl⟩ := zipV_get ev
    obtain ⟨t, ht, et⟩ := Option.map_eq_some_iff.mp (by rw [← List.getElem?_map]; exact ex)
    subst et
    obtain ⟨q, bb, e3, e4, e5⟩ := p.item j t ht
    rw [ek, List.getElem?_map, e3] at g1
    have g1' := Option.some.inj g1
    obtain ⟨y, gy, ry⟩ := RVs.get rv g2
    rw [List.getElem?_map, e3] at gy
    cases gy
    refine ⟨t, [.ref bb, q.2], rfl, .inr (.inl (List.mem_of_getElem? ht)), e5, .ref bb, _, rfl, ?_, q.2, [], rfl, RV.mon mon _ _ ry, rfl⟩
    rw [← g1']
    exact ⟨bb, q.1.map kV, rfl, .inr (.inr ⟨_, e4⟩), p.keep _ _ e4, keyV_rv q.1⟩
theorem boot_tuple : bootBuiltins "tuple" = some (.type "tuple") := by decide +kernel
theorem snd_otup {i : Nat} {x y : Expr} {ap cp pos : Pos} (hy : Hyp U W L k) (g : Gd W k N sc ow X Z) (hg : gnameIs sc "tuple" y = true) (hx : nameIs N sc i x = true) (hl : (ap.endLine == cp.line) = true) :
    Snd W X Z (fun env h => (ofOpt (ownDL env i) h).bind fun d h => if decide (d.1.length ≤ most) then .ok (.tup (zipV d.1 d.2)) h else .bad) (.Call y [.Call (.Attribute x "items" ap) [] [] cp] [] pos) := by
  obtain ⟨p, rfl, hgl, hdb⟩ := g.gl hg
  obtain ⟨z, p2, rfl, hN, hv, h1, h2⟩ := g.vis hx
  refine .of (PE.imp (pe_callTy (call_tupIt g.calm) hgl (g.mgN hy (by decide +kernel)) boot_tuple (pa_cons (pe_bm0 PySem.F.plainAttrs_dict PySem.F.slot_dict_items PySem.F.type_dict_items DX.mt_itemsT (pe_var hN hv h1 h2) (by rfl) hl) pa_nil (star_cons rfl)) (by decide) hdb (star_cons rfl) (star_plain rfl)) fun σ H Q q => ?_) rfl
  obtain ⟨F, μ, env, h, r, e, a⟩ := q
  dsimp only at a
  cases ho : ownDL env i with
  | none =>
    rw [ho] at a
    exact a.elim
  | some d =>
    rw [ho] at a
    dsimp only [ofOpt, Out.bind] at a
    by_cases hm : decide (d.1.length ≤ most) = true
    · rw [if_pos hm] at a
      obtain ⟨v, e1, b, kvs, rfl, gb, nfb, nmb, ek, rv⟩ := e.sl i _ (ownD_some0 ho)
      refine ⟨.ref b, e1, .inr (.inr (.inl ⟨rfl, .inr ⟨kvs, gb⟩⟩)), b, kvs, rfl, rfl, gb, fun p np => ?_⟩
      have npb : b ≠ p := fun z => by rw [z, np] at gb; cases gb
      refine ⟨p, b, kvs, rfl, upd_same, (upd_ne npb).trans gb, fun G l ts pa nl lts gl => ?_⟩
      have up : ∀ {c : Addr}, c ≠ p → (upd H p (DX.itemsO p b)) c = H c := fun {c} z => upd_ne z
      have r1 := r.fresh (o := DX.itemsO p b) np
      have s1 := Stp.fresh (F := F) (μ := μ) (o := DX.itemsO p b) np (r.notF np)
      obtain ⟨F', r2, s2, fr, rz⟩ := pairs_st r1 pa ek (RVs.mono s1 _ _ rv)
      have lnp : l ≠ p := fun z => by rw [z, upd_same] at nl; cases nl
      have hl0 : H l = none := (up lnp).symm.trans nl
      have nm : l ∉ μ := fun hm => r.lm l hm hl0
      have s3 := (s1.trans s2).freeze hl0
      have r3 := r2.grow (p := l) (by rw [gl]; exact fun z => by cases z) nm
      exact a _ μ G (.ref l) r3 s3 ⟨l, _, rfl, .inr rfl, gl, RVs.grow _ _ rz⟩
    · rw [if_neg hm] at a
      exact a.elim
end
end Pyi
set_option Elab.async false
set_option linter.all false
set_option maxRecDepth 100000
set_option maxHeartbeats 2000000
/-! The interpreter is right: all expressions, by the look at the text. -/
namespace Pyi
open PySem PySem.Spec PyProof.Rows L2 RZ

section
variable {U : Nat → Option Def} {W : Wd} {L : Lk} {k : Nat} {N : List Str} {sc ow : Scope} {X : Cx} {Z : WX}
/-! ### names -/
theorem snd_var {i : Nat} {x : Expr} (g : Gd W k N sc ow X Z) (h : nameIs N sc i x = true) : Snd W X Z (fun env h => ofOpt (varV env i) h) x := by
  obtain ⟨y, p, rfl, hN, hv, h1, h2⟩ := g.vis h
  refine .of (PE.imp (pe_var hN hv h1 h2) fun σ H Q q => ?_) rfl
  obtain ⟨F, μ, env, h, r, e, a⟩ := q
  obtain ⟨v, ev, kk⟩ := aft_opt a
  obtain ⟨z, e1, q1⟩ := e.sl i _ (var_some ev)
  exact ⟨z, e1, kk F μ H z r Stp.refl q1⟩
theorem snd_glb {y : Str} {l : Lit} {x : Expr} (hy : Hyp U W L k) (g : Gd W k N sc ow X Z) (h : gnameIs sc y x = true) (hl : L.gl y = some l) : Snd W X Z (fun _ h => .ok l.val h) x := by
  obtain ⟨p, rfl, hgl, hdb⟩ := g.gl h
  obtain ⟨u, hm, rv⟩ := hy.glob y l hl
  refine .of (PE.imp (pe_glob hgl (by rw [g.emg]; exact hm) rv hdb) fun σ H Q q => ?_) rfl
  obtain ⟨F, μ, env, h, r, e, a⟩ := q
  exact a F μ H _ r Stp.refl (lit_rv l)
theorem snd_olen {i : Nat} {x y : Expr} (hy : Hyp U W L k) (g : Gd W k N sc ow X Z) (hg : gnameIs sc "len" y = true) (hx : nameIs N sc i x = true) (pos : Pos) :
    Snd W X Z (fun env h => (ofOpt (ownL env i) h).bind fun vs h => .ok (.int vs.length) h) (.Call y [x] [] pos) := by
  obtain ⟨p, rfl, hgl, hdb⟩ := g.gl hg
  obtain ⟨z, p2, rfl, hN, hv, h1, h2⟩ := g.vis hx
  refine .of (PE.imp (pe_callB call_len hgl (g.mgN hy (by decide +kernel)) (by decide +kernel) (pa_cons (pe_var hN hv h1 h2) pa_nil (star_cons rfl)) (by decide) hdb (star_cons rfl) (star_plain rfl)) fun σ H Q q => ?_) rfl
  obtain ⟨F, μ, env, h, r, e, a⟩ := q
  dsimp only at a
  cases ho : ownL env i with
  | none =>
    rw [ho] at a
    exact a.elim
  | some vs =>
    rw [ho] at a
    obtain ⟨v, e1, b, ys, rfl, gb, rv, _, _⟩ := e.sl i _ (own_some ho)
    exact ⟨.ref b, e1, .ref b, vs.length, rfl, .inl ⟨ys, SqL.of gb, RVs.length rv⟩, a F μ H _ r Stp.refl rfl⟩
theorem snd_oidx {i : Nat} {m : Ev Val} {x y : Expr} (g : Gd W k N sc ow X Z) (hx : nameIs N sc i x = true) (hs : notSlice y = true) (hm : Snd W X Z m y) (pos : Pos) :
    Snd W X Z (fun env h => (ofOpt (ownL env i) h).bind fun vs h => (m env h).bind fun y h => ofOpt ((asI y).bind fun k => atI vs k) h) (.Subscript x y pos) := by
  obtain ⟨z, p2, rfl, hN, hv, h1, h2⟩ := g.vis hx
  refine .of (PE.imp (pe_ix ix_list (pe_var hN hv h1 h2) hm.pe (sub_plain hs)) fun σ H Q q => ?_) rfl
  obtain ⟨F, μ, env, h, r, e, a⟩ := q
  dsimp only at a
  cases ho : ownL env i with
  | none =>
    rw [ho] at a
    exact a.elim
  | some vs =>
    rw [ho] at a
    obtain ⟨v, e1, b, ys, rfl, _, _, _, _⟩ := e.sl i _ (own_some ho)
    refine ⟨.ref b, e1, ?_⟩
    refine rd_step r e a fun w h1 F1 μ1 H1 y r1 e1' s1 v1 a1 => ?_
    obtain ⟨u, eu, kk⟩ := aft_opt a1
    obtain ⟨v2, e2, b2, ys2, rfl, gb, rv, _, _⟩ := e1'.sl i _ (own_some ho)
    rw [e1] at e2
    cases e2
    cases w with
    | int j =>
      obtain ⟨z, ez, rz⟩ := atI_rel rv (show Pyi.atI vs j = some u from eu)
      exact ⟨b, ys2, j, z, rfl, v1, SqL.of gb, ez, kk F1 μ1 H1 z r1 s1 rz⟩
    | _ => cases eu
/-! ### targets -/
mutual
theorem sndT : ∀ (t : Tg) (x : Expr), Gd W k N sc ow X Z → chkT N ow t x = true → PG X x (gG W t)
  | .v i, x, g, h => by
    have h' : (match asName x with
      | some y => decide (N[i]? = some y) && locB ow y
      | none => false) = true := h
    cases e : asName x with
    | none => rw [e] at h'; cases h'
    | some y =>
      rw [e] at h'
      obtain ⟨p, rfl⟩ := asName_eq e
      obtain ⟨h1, h2⟩ := and2 h'
      obtain ⟨l1, l2⟩ := g.st y h2
      exact pg_v g.nd (by rw [g.eN]; exact of_decide_eq_true h1) l1 l2
  | .t l, x, g, h => by
    have h' : (match asTup x with
      | some es => es.all notStar && chkTs N ow l es
      | none => false) = true := h
    cases e : asTup x with
    | none => rw [e] at h'; cases h'
    | some es =>
      rw [e] at h'
      obtain ⟨kk, p, rfl⟩ := asTup_eq e
      obtain ⟨h1, h2⟩ := and2 h'
      obtain ⟨q1, q2, q3⟩ := sndTs l es g h2
      exact pg_t g.calm g.eK q1 q2 q3
theorem sndTs : ∀ (ts : List Tg) (xs : List Expr), Gd W k N sc ow X Z → chkTs N ow ts xs = true → PGs X xs (gGs W ts) ∧ (assignEach xs X.env).length = ts.length ∧ (assignEach xs X.env).findIdx? (·.1) = none
  | [], xs, g, h => by
    cases xs with
    | nil => exact ⟨pgs_0, rfl, rfl⟩
    | cons _ _ => cases h
  | t :: ts, xs, g, h => by
    cases xs with
    | nil => cases h
    | cons x xs =>
      obtain ⟨h1, h2⟩ := and2 (show (chkT N ow t x && chkTs N ow ts xs) = true from h)
      obtain ⟨q1, q2, q3⟩ := sndTs ts xs g h2
      have q0 := sndT t x g h1
      have hx : assignEach (x :: xs) X.env = (false, assign x X.env) :: assignEach xs X.env := by
        cases t with
        | v i =>
          have h' : (match asName x with
            | some y => decide (N[i]? = some y) && locB ow y
            | none => false) = true := h1
          cases e : asName x with
          | none => rw [e] at h'; cases h'
          | some y =>
            obtain ⟨p, rfl⟩ := asName_eq e
            rfl
        | t l =>
          have h' : (match asTup x with
            | some es => es.all notStar && chkTs N ow l es
            | none => false) = true := h1
          cases e : asTup x with
          | none => rw [e] at h'; cases h'
          | some es =>
            obtain ⟨kk, p, rfl⟩ := asTup_eq e
            rfl
      refine ⟨pgs_1 q0 q1 (by rw [hx]; rfl), by rw [hx, List.length_cons, List.length_cons, q2], ?_⟩
      rw [hx, List.findIdx?_cons]
      simp [q3]
end
/-! ### the place of a comprehension -/
theorem rel_look {scope sc : Scope} {x : Str} {kd : NameKind} (h : scope.names.lookup x = some kd) (hk : kd ≠ .free) : (relS scope sc).names.lookup x = some kd := by
  unfold relS
  show List.lookup x (scope.names.map _) = _
  generalize scope.names = l at h
  induction l with
  | nil => cases h
  | cons y ys ih =>
    obtain ⟨n, k⟩ := y
    rw [List.lookup_cons] at h
    rw [List.map_cons]
    by_cases hn : (x == n) = true
    · rw [hn] at h
      cases h
      have : (kd == NameKind.free) = false := by
        cases kd <;> first | rfl | exact absurd rfl hk
      simp only [this, Bool.false_and]
      rw [List.lookup_cons]
      simp [hn]
    · have hn' : (x == n) = false := by simpa using hn
      rw [hn'] at h
      rw [List.lookup_cons]
      split
      · rename_i h2
        split at h2 <;> (rw [hn'] at h2; cases h2)
      · exact ih h
theorem tk0 {X : Cx} : Takes X Z0 := fun u s' ⟨a, B, sI, pins, σ, H, cls, d, e, I, nb, up, sky, na, os, ag, w⟩ => w.elim
theorem Gd.blk (g : Gd W k N sc ow X Z) {scope : Scope} (s : Shared) (H : Hp) (C : Addr) (cl : List (Str × Addr)) (fp : List Addr) : Gd W k N (relS scope sc) scope (X.blk s H scope (compEnvC scope cl C X.env) fp) Z0 where
  eP := g.eP
  ew := g.ew
  eK := g.eK
  emg := g.emg
  ebase := g.ebase
  eN := g.eN
  nd := g.nd
  sc := by
    show (compEnvC scope cl C X.env).scope = _
    rw [← g.sc]
    rfl
  calm := g.calm
  st := fun x hx => by
    unfold locB at hx
    show Loc (compEnvC scope cl C X.env).scope x ∧ ((scope.names.lookup x == some .cell) = true ∨ (compEnvC scope cl C X.env).scope.names.lookup x = some .local)
    have es : (compEnvC scope cl C X.env).scope = relS scope X.env.scope := rfl
    rw [es]
    cases e : scope.names.lookup x with
    | none => rw [e] at hx; cases hx
    | some kd =>
      rw [e] at hx
      cases kd with
      | «local» =>
        have r := rel_look (sc := X.env.scope) e (by decide)
        exact ⟨.inl r, .inr r⟩
      | cell =>
        have r := rel_look (sc := X.env.scope) e (by decide)
        exact ⟨.inr r, .inl rfl⟩
      | free => cases hx
      | globalExplicit => cases hx
      | globalImplicit => cases hx
  rm := g.rm
  tk := tk0
/-! ### the recursion -/
theorem evEs_len {cf : Nat → List Val → Hs → Out Val} : ∀ (es : List E) (env : Env) (h : Hs) (vs : List Val) (h' : Hs), es.all (fun e => !isStarE e) = true → evEs cf es env h = .ok vs h' → vs.length = es.length
  | [], _, _, _, _, _, e => by cases e; rfl
  | x :: es, env, h, vs, h', hs, e => by
    obtain ⟨hx, hs⟩ := and2 (show (!isStarE x && es.all (fun e => !isStarE e)) = true from hs)
    have hx' : isStarE x = false := by simpa using hx
    obtain ⟨v, h1, _, e2⟩ := bind_ok (show (evE cf x env h).bind (fun x' h => (ofOpt (spl (isStarE x) x') h).bind fun xs h => (evEs cf es env h).bind fun r h => .ok (xs ++ r) h) = .ok vs h' from e)
    rw [hx'] at e2
    obtain ⟨r, h2, e3, e4⟩ := bind_ok (show (evEs cf es env h1).bind (fun r h => .ok ([v] ++ r) h) = .ok vs h' from e2)
    cases e4
    rw [List.length_append, evEs_len es env h1 r _ hs e3, List.length_cons]
    simp [Nat.add_comm]
theorem stars_no {L : Lk} {N : List Str} : ∀ (es : List E) (sc ow : Scope) (xs : List Expr), xs.all notStar = true → chkEs L N es sc ow xs = true → es.all (fun e => !isStarE e) = true
  | [], sc, ow, xs, _, _ => rfl
  | e :: es, sc, ow, xs, hx, h => by
    cases xs with
    | nil => cases h
    | cons x xs =>
      obtain ⟨n1, n2⟩ := and2 (show (notStar x && xs.all notStar) = true from hx)
      obtain ⟨h1, h2⟩ := and2 (show ((if isStarE e then (match asStar x with
        | some y => chkE L N e sc ow y
        | none => false) else notStar x && chkE L N e sc ow x) && chkEs L N es sc ow xs) = true from h)
      show (!isStarE e && es.all (fun e => !isStarE e)) = true
      rw [stars_no es sc ow xs n2 h2]
      cases hb : isStarE e with
      | false => rfl
      | true =>
        rw [hb, if_pos rfl] at h1
        cases x <;> first | cases h1 | cases n1
theorem chkEs_len {L : Lk} {N : List Str} : ∀ (es : List E) (sc ow : Scope) (xs : List Expr), chkEs L N es sc ow xs = true → xs.length = es.length
  | [], sc, ow, xs, h => by
    cases xs with
    | nil => rfl
    | cons _ _ => cases h
  | e :: es, sc, ow, xs, h => by
    cases xs with
    | nil => cases h
    | cons x xs =>
      obtain ⟨_, h2⟩ := and2 (show ((if isStarE e then (match asStar x with
        | some y => chkE L N e sc ow y
        | none => false) else notStar x && chkE L N e sc ow x) && chkEs L N es sc ow xs) = true from h)
      rw [List.length_cons, List.length_cons, chkEs_len es sc ow xs h2]
theorem chkKs_len : ∀ (ns : List Str) (ks : List (Option Expr)), chkKs ns ks = true → ks.length = ns.length ∧ ks.all (·.isSome) = true
  | [], ks, h => by
    have h : ks.isEmpty = true := h
    cases ks with
    | nil => exact ⟨rfl, rfl⟩
    | cons _ _ => cases h
  | n :: ns, ks, h => by
    cases ks with
    | nil => cases h
    | cons o ks =>
      cases o with
      | none => cases h
      | some x =>
        have h' : (match asConst x with
          | some c => decide (c = (Lit.str n).const) && chkKs ns ks
          | none => false) = true := h
        cases e : asConst x with
        | none => rw [e] at h'; cases h'
        | some c =>
          rw [e] at h'
          obtain ⟨_, h2⟩ := and2 h'
          obtain ⟨q1, q2⟩ := chkKs_len ns ks h2
          refine ⟨by rw [List.length_cons, List.length_cons, q1], ?_⟩
          rw [List.all_cons, q2]
          rfl
theorem ownOf_snd (N : List Str) (is : List Nat) : (ownOf N is).map (·.2) = is := by
  induction is with
  | nil => rfl
  | cons i is ih =>
    show i :: (ownOf N is).map (·.2) = i :: is
    rw [ih]
mutual
theorem sndE (hy : Hyp U W L k) : ∀ (e : E) {sc ow : Scope} {X : Cx} {Z : WX} (x : Expr), Gd W k N sc ow X Z → chkE L N e sc ow x = true → Snd W X Z (evE (callD U k) e) x
  | .lit l, sc, ow, X, Z, x, g, h => by
    have h' : (match asConst x with
      | some c => decide (c = l.const)
      | none => false) = true := h
    cases e : asConst x with
    | none => rw [e] at h'; cases h'
    | some c =>
      rw [e] at h'
      exact snd_lit l e (of_decide_eq_true h')
  | .glb y l, sc, ow, X, Z, x, g, h => by
    obtain ⟨h1, h2⟩ := and2 (show (gnameIs sc y x && decide (L.gl y = some l)) = true from h)
    exact snd_glb hy g h1 (of_decide_eq_true h2)
  | .var i, sc, ow, X, Z, x, g, h => snd_var g h
  | .bin o a b, sc, ow, X, Z, x, g, h => by
    have h' : (match asBin x with
      | some (p, o', q) => decide (o' = opB o) && chkE L N a sc ow p && chkE L N b sc ow q
      | none => false) = true := h
    cases e : asBin x with
    | none => rw [e] at h'; cases h'
    | some t =>
      obtain ⟨p, o', q⟩ := t
      rw [e] at h'
      obtain ⟨h0, h2⟩ := and2 h'
      obtain ⟨h0, h1⟩ := and2 h0
      have h0 := of_decide_eq_true h0
      subst h0
      obtain ⟨pos, rfl⟩ := asBin_eq e
      exact snd_bin g o (sndE hy a p g h1) (sndE hy b q g h2) pos
  | .neg a, sc, ow, X, Z, x, g, h => by
    have h' : (match asUn x with
      | some (o, p) => decide (o = .USub) && chkE L N a sc ow p
      | none => false) = true := h
    cases e : asUn x with
    | none => rw [e] at h'; cases h'
    | some t =>
      obtain ⟨o', p⟩ := t
      rw [e] at h'
      obtain ⟨h0, h1⟩ := and2 h'
      have h0 := of_decide_eq_true h0
      subst h0
      obtain ⟨pos, rfl⟩ := asUn_eq e
      exact snd_neg (sndE hy a p g h1) pos
  | .not_ a, sc, ow, X, Z, x, g, h => by
    have h' : (match asUn x with
      | some (o, p) => decide (o = .Not) && notIf p && chkE L N a sc ow p
      | none => false) = true := h
    cases e : asUn x with
    | none => rw [e] at h'; cases h'
    | some t =>
      obtain ⟨o', p⟩ := t
      rw [e] at h'
      obtain ⟨h0, h2⟩ := and2 h'
      obtain ⟨h0, h1⟩ := and2 h0
      have h0 := of_decide_eq_true h0
      subst h0
      obtain ⟨pos, rfl⟩ := asUn_eq e
      exact snd_not (sndE hy a p g h2) h1 pos
  | .and_ a b, sc, ow, X, Z, x, g, h => by
    have h' : (match asBool x with
      | some (o, es, pos) => match es with
        | p :: q :: r => decide (o = .And) && notIf p && chkE L N a sc ow p && (match r with
          | [] => notIf q && chkE L N b sc ow q
          | _ :: _ => chkE L N b sc ow (.BoolOp .And (q :: r) pos))
        | _ => false
      | none => false) = true := h
    cases e : asBool x with
    | none => rw [e] at h'; cases h'
    | some t =>
      obtain ⟨o', es, pos⟩ := t
      rw [e] at h'
      have hx := asBool_eq e
      match es, h', hx with
      | [], h', _ => cases h'
      | [_], h', _ => cases h'
      | p :: q :: r, h', hx =>
        obtain ⟨h0, h3⟩ := and2 h'
        obtain ⟨h0, h2⟩ := and2 h0
        obtain ⟨h0, h1⟩ := and2 h0
        have h0 := of_decide_eq_true h0
        subst h0
        subst hx
        refine snd_and (sndE hy a p g h2) h1 ?_
        match r, h3 with
        | [], h3 =>
          obtain ⟨h4, h5⟩ := and2 h3
          exact .inl ⟨rfl, h4, sndE hy b q g h5⟩
        | z :: r, h3 => exact .inr ⟨by simp, sndE hy b _ g h3⟩
  | .or_ a b, sc, ow, X, Z, x, g, h => by
    have h' : (match asBool x with
      | some (o, es, pos) => match es with
        | p :: q :: r => decide (o = .Or) && notIf p && chkE L N a sc ow p && (match r with
          | [] => notIf q && chkE L N b sc ow q
          | _ :: _ => chkE L N b sc ow (.BoolOp .Or (q :: r) pos))
        | _ => false
      | none => false) = true := h
    cases e : asBool x with
    | none => rw [e] at h'; cases h'
    | some t =>
      obtain ⟨o', es, pos⟩ := t
      rw [e] at h'
      have hx := asBool_eq e
      match es, h', hx with
      | [], h', _ => cases h'
      | [_], h', _ => cases h'
      | p :: q :: r, h', hx =>
        obtain ⟨h0, h3⟩ := and2 h'
        obtain ⟨h0, h2⟩ := and2 h0
        obtain ⟨h0, h1⟩ := and2 h0
        have h0 := of_decide_eq_true h0
        subst h0
        subst hx
        refine snd_or (sndE hy a p g h2) h1 ?_
        match r, h3 with
        | [], h3 =>
          obtain ⟨h4, h5⟩ := and2 h3
          exact .inl ⟨rfl, h4, sndE hy b q g h5⟩
        | z :: r, h3 => exact .inr ⟨by simp, sndE hy b _ g h3⟩
  | .ite c a b, sc, ow, X, Z, x, g, h => by
    have h' : (match asIf x with
      | some (p, q, r) => notIf p && chkE L N c sc ow p && chkE L N a sc ow q && chkE L N b sc ow r
      | none => false) = true := h
    cases e : asIf x with
    | none => rw [e] at h'; cases h'
    | some t =>
      obtain ⟨p, q, r⟩ := t
      rw [e] at h'
      obtain ⟨h0, h3⟩ := and2 h'
      obtain ⟨h0, h2⟩ := and2 h0
      obtain ⟨h0, h1⟩ := and2 h0
      obtain ⟨pos, rfl⟩ := asIf_eq e
      exact snd_ite (sndE hy c p g h1) h0 (sndE hy a q g h2) (sndE hy b r g h3) pos
  | .cmp o a b, sc, ow, X, Z, x, g, h => by
    have h' : (match asCmp x with
      | some (p, os, qs) => match os, qs with
        | [o'], [q] => decide (o' = opC o) && notSet q && chkE L N a sc ow p && chkE L N b sc ow q
        | _, _ => false
      | none => false) = true := h
    cases e : asCmp x with
    | none => rw [e] at h'; cases h'
    | some t =>
      obtain ⟨p, os, qs⟩ := t
      rw [e] at h'
      obtain ⟨pos, hx⟩ := asCmp_eq e
      match os, qs, h', hx with
      | [], _, h', _ => cases h'
      | _ :: _ :: _, _, h', _ => cases h'
      | [_], [], h', _ => cases h'
      | [_], _ :: _ :: _, h', _ => cases h'
      | [o'], [q], h', hx =>
        obtain ⟨h0, h3⟩ := and2 h'
        obtain ⟨h0, h2⟩ := and2 h0
        obtain ⟨h0, h1⟩ := and2 h0
        have h0 := of_decide_eq_true h0
        subst h0
        subst hx
        exact snd_cmp g o (sndE hy a p g h2) (sndE hy b q g h3) h1 pos
  | .chn o o2 a b c, sc, ow, X, Z, x, g, h => by
    have h' : (match asCmp x with
      | some (p, os, qs) => match os, qs with
        | [o', o2'], [q, r] => decide (o' = opC o) && decide (o2' = opC o2) && notSet r && chkE L N a sc ow p && chkE L N b sc ow q && chkE L N c sc ow r
        | _, _ => false
      | none => false) = true := h
    cases e : asCmp x with
    | none => rw [e] at h'; cases h'
    | some t =>
      obtain ⟨p, os, qs⟩ := t
      rw [e] at h'
      obtain ⟨pos, hx⟩ := asCmp_eq e
      match os, qs, h', hx with
      | [], _, h', _ => cases h'
      | [_], _, h', _ => cases h'
      | _ :: _ :: _ :: _, _, h', _ => cases h'
      | [_, _], [], h', _ => cases h'
      | [_, _], [_], h', _ => cases h'
      | [_, _], _ :: _ :: _ :: _, h', _ => cases h'
      | [o', o2'], [q, r], h', hx =>
        obtain ⟨h0, h5⟩ := and2 h'
        obtain ⟨h0, h4⟩ := and2 h0
        obtain ⟨h0, h3⟩ := and2 h0
        obtain ⟨h0, h2⟩ := and2 h0
        obtain ⟨h0, h1⟩ := and2 h0
        have h0 := of_decide_eq_true h0
        have h1 := of_decide_eq_true h1
        subst h0 h1
        subst hx
        exact snd_chn g o o2 (sndE hy a p g h3) (sndE hy b q g h4) (sndE hy c r g h5) h2 pos
  | .tup es, sc, ow, X, Z, x, g, h => by
    have h' : (match asTup x with
      | some xs => decide (xs.length ≤ 1000) && es.all (fun e => !isStarE e) && chkEs L N es sc ow xs
      | none => false) = true := h
    cases e : asTup x with
    | none => rw [e] at h'; cases h'
    | some xs =>
      rw [e] at h'
      obtain ⟨h0, h1⟩ := and2 h'
      obtain ⟨h0, hst⟩ := and2 h0
      obtain ⟨kk, pos, rfl⟩ := asTup_eq e
      have l0 := of_decide_eq_true h0
      exact snd_tup (sndEs hy es xs g h1) (fun env h vs h' q => by
        rw [evEs_len es env h vs h' hst q, ← chkEs_len es sc ow xs h1]
        exact Nat.le_trans l0 (by decide)) kk pos
  | .idx a i, sc, ow, X, Z, x, g, h => by
    have h' : (match asSub x with
      | some (p, q) => notSlice q && chkE L N a sc ow p && chkE L N i sc ow q
      | none => false) = true := h
    cases e : asSub x with
    | none => rw [e] at h'; cases h'
    | some t =>
      obtain ⟨p, q⟩ := t
      rw [e] at h'
      obtain ⟨h0, h2⟩ := and2 h'
      obtain ⟨h0, h1⟩ := and2 h0
      obtain ⟨pos, rfl⟩ := asSub_eq e
      exact snd_idx g (sndE hy a p g h1) (sndE hy i q g h2) h0 pos
  | .slc a lo hi, sc, ow, X, Z, x, g, h => by
    have h' : (match asSub x with
      | some (p, q) => match asSlice q with
        | some (l, u, st) => st.isNone && chkE L N a sc ow p && chkO L N lo sc ow l && chkO L N hi sc ow u
        | none => false
      | none => false) = true := h
    cases e : asSub x with
    | none => rw [e] at h'; cases h'
    | some t =>
      obtain ⟨p, q⟩ := t
      rw [e] at h'
      obtain ⟨pos, rfl⟩ := asSub_eq e
      have h'' : (match asSlice q with
        | some (l, u, st) => st.isNone && chkE L N a sc ow p && chkO L N lo sc ow l && chkO L N hi sc ow u
        | none => false) = true := h'
      cases e2 : asSlice q with
      | none => rw [e2] at h''; cases h''
      | some t =>
        obtain ⟨l, u, st⟩ := t
        rw [e2] at h''
        obtain ⟨p2, rfl⟩ := asSlice_eq e2
        obtain ⟨h0, h3⟩ := and2 h''
        obtain ⟨h0, h2⟩ := and2 h0
        obtain ⟨h0, h1⟩ := and2 h0
        cases st with
        | some _ => cases h0
        | none => exact snd_slc g (sndE hy a p g h1) (sndO hy lo l g h2) (sndO hy hi u g h3) pos p2
  | .rev a, sc, ow, X, Z, x, g, h => by
    have h' : (match asSub x with
      | some (p, q) => match asSlice q with
        | some (l, u, st) => match st with
          | some c => l.isNone && u.isNone && minusOne c && chkE L N a sc ow p
          | none => false
        | none => false
      | none => false) = true := h
    cases e : asSub x with
    | none => rw [e] at h'; cases h'
    | some t =>
      obtain ⟨p, q⟩ := t
      rw [e] at h'
      obtain ⟨pos, rfl⟩ := asSub_eq e
      dsimp only at h'
      cases e2 : asSlice q with
      | none => rw [e2] at h'; cases h'
      | some t =>
        obtain ⟨l, u, st⟩ := t
        rw [e2] at h'
        obtain ⟨p2, rfl⟩ := asSlice_eq e2
        cases st with
        | none => cases h'
        | some c =>
          obtain ⟨h0, h3⟩ := and2 h'
          obtain ⟨h0, h2⟩ := and2 h0
          obtain ⟨h0, h1⟩ := and2 h0
          cases l with
          | some _ => cases h0
          | none =>
            cases u with
            | some _ => cases h1
            | none => exact snd_rev g (sndE hy a p g h3) h2 pos p2
  | .call f es ds, sc, ow, X, Z, x, g, h => by
    have h' : (match asCall x with
      | some (p, xs, ks) => ks.isEmpty && (match L.fn f with
        | some nm => gnameIs sc nm p
        | none => false) && decide (ds ∈ L.dfl f) && xs.all notStar && chkEs L N es sc ow xs
      | none => false) = true := h
    cases e : asCall x with
    | none => rw [e] at h'; cases h'
    | some t =>
      obtain ⟨p, xs, ks⟩ := t
      rw [e] at h'
      obtain ⟨pos, rfl⟩ := asCall_eq e
      obtain ⟨h0, h4⟩ := and2 h'
      obtain ⟨h0, h3⟩ := and2 h0
      obtain ⟨h0, h2⟩ := and2 h0
      obtain ⟨h0, h1⟩ := and2 h0
      cases ks with
      | cons _ _ => cases h0
      | nil =>
        cases hn : L.fn f with
        | none => rw [hn] at h1; cases h1
        | some nm =>
          rw [hn] at h1
          have l := chkEs_len es sc ow xs h4
          refine snd_call hy g hn h1 (of_decide_eq_true h2) h3 (sndEs hy es xs g h4) (fun e0 env h vs h' q => ?_) (fun e0 env hh => ?_) pos
          · subst e0
            cases es with
            | nil => cases q; exact ⟨rfl, rfl⟩
            | cons _ _ => cases l
          · subst e0
            cases es with
            | nil => exact ⟨[], hh, rfl⟩
            | cons _ _ => cases l
  | .bi b es, sc, ow, X, Z, x, g, h => by
    have h' : (match asCall x with
      | some (p, xs, ks) => ks.isEmpty && gnameIs sc (biN b) p && !xs.isEmpty && xs.all notStar && chkEs L N es sc ow xs
      | none => false) = true := h
    cases e : asCall x with
    | none => rw [e] at h'; cases h'
    | some t =>
      obtain ⟨p, xs, ks⟩ := t
      rw [e] at h'
      obtain ⟨pos, rfl⟩ := asCall_eq e
      obtain ⟨h0, h4⟩ := and2 h'
      obtain ⟨h0, h3⟩ := and2 h0
      obtain ⟨h0, h2⟩ := and2 h0
      obtain ⟨h0, h1⟩ := and2 h0
      cases ks with
      | cons _ _ => cases h0
      | nil => exact snd_bi hy g h1 h2 h3 (sndEs hy es xs g h4) pos
  | .isi a t, sc, ow, X, Z, x, g, h => by
    have key : ∀ t, isBuiltTy t = true → chkE L N (.isi a t) sc ow x = true → Snd W X Z (evE (callD U k) (.isi a t)) x := fun t ht h => by
      have h' : (match asCall x with
        | some (p, xs, ks) => match xs with
          | [y, z] => ks.isEmpty && gnameIs sc "isinstance" p && notStar y && chkE L N a sc ow y && gnameIs sc (tyN t) z
          | _ => false
        | none => false) = true := by cases t <;> first | exact h | cases ht
      cases e : asCall x with
      | none => rw [e] at h'; cases h'
      | some tt =>
        obtain ⟨p, xs, ks⟩ := tt
        rw [e] at h'
        obtain ⟨pos, hx⟩ := asCall_eq e
        match xs, h', hx with
        | [], h', _ => cases h'
        | [_], h', _ => cases h'
        | _ :: _ :: _ :: _, h', _ => cases h'
        | [y, z], h', hx =>
          subst hx
          obtain ⟨h0, h5⟩ := and2 h'
          obtain ⟨h0, h4⟩ := and2 h0
          obtain ⟨h0, h3⟩ := and2 h0
          obtain ⟨h0, h1⟩ := and2 h0
          cases ks with
          | cons _ _ => cases h0
          | nil => exact snd_isi hy g h1 ht h5 h3 (sndE hy a y g h4) pos
    cases t with
    | own c =>
      have h' : (match asCall x with
        | some (p, xs, ks) => match xs with
          | [y, z] => ks.isEmpty && gnameIs sc "isinstance" p && notStar y && chkE L N a sc ow y && (match L.cl c with
              | some nm => gnameIs sc nm z
              | none => false)
          | _ => false
        | none => false) = true := h
      cases e : asCall x with
      | none => rw [e] at h'; cases h'
      | some tt =>
        obtain ⟨p, xs, ks⟩ := tt
        rw [e] at h'
        obtain ⟨pos, hx⟩ := asCall_eq e
        match xs, h', hx with
        | [], h', _ => cases h'
        | [_], h', _ => cases h'
        | _ :: _ :: _ :: _, h', _ => cases h'
        | [y, z], h', hx =>
          subst hx
          obtain ⟨h0, h5⟩ := and2 h'
          obtain ⟨h0, h4⟩ := and2 h0
          obtain ⟨h0, h3⟩ := and2 h0
          obtain ⟨h0, h1⟩ := and2 h0
          cases ks with
          | cons _ _ => cases h0
          | nil =>
            cases hn : L.cl c with
            | none => rw [hn] at h5; cases h5
            | some nm =>
              rw [hn] at h5
              exact snd_isO hy g h1 hn h5 h3 (sndE hy a y g h4) pos
    | int => exact key .int rfl h
    | bool => exact key .bool rfl h
    | str => exact key .str rfl h
    | tuple => exact key .tuple rfl h
    | list => exact key .list rfl h
  | .fr f, sc, ow, X, Z, x, g, h => snd_fr (sndF hy f x g h).1 (sndF hy f x g h).2
  | .mk f, sc, ow, X, Z, x, g, h => snd_mk (sndF hy f x g h).1 (sndF hy f x g h).2
  | .olen i, sc, ow, X, Z, x, g, h => by
    have h' : (match asCall x with
      | some (p, xs, ks) => match xs with
        | [y] => ks.isEmpty && gnameIs sc "len" p && nameIs N sc i y
        | _ => false
      | none => false) = true := h
    cases e : asCall x with
    | none => rw [e] at h'; cases h'
    | some t =>
      obtain ⟨p, xs, ks⟩ := t
      rw [e] at h'
      obtain ⟨pos, hx⟩ := asCall_eq e
      match xs, h', hx with
      | [], h', _ => cases h'
      | _ :: _ :: _, h', _ => cases h'
      | [y], h', hx =>
        subst hx
        obtain ⟨h0, h2⟩ := and2 h'
        obtain ⟨h0, h1⟩ := and2 h0
        cases ks with
        | cons _ _ => cases h0
        | nil => exact snd_olen hy g h1 h2 pos
  | .oidx i e, sc, ow, X, Z, x, g, h => by
    have h' : (match asSub x with
      | some (p, q) => notSlice q && nameIs N sc i p && chkE L N e sc ow q
      | none => false) = true := h
    cases e1 : asSub x with
    | none => rw [e1] at h'; cases h'
    | some t =>
      obtain ⟨p, q⟩ := t
      rw [e1] at h'
      obtain ⟨h0, h2⟩ := and2 h'
      obtain ⟨h0, h1⟩ := and2 h0
      obtain ⟨pos, rfl⟩ := asSub_eq e1
      exact snd_oidx g h1 h0 (sndE hy e q g h2) pos
  | .oemp i pos, sc, ow, X, Z, x, g, h => by
    have h' : (match asCmp x with
      | some (p, os, qs) => match os, qs with
        | [o'], [q] => decide (o' = if pos then .Eq else .NotEq) && nameIs N sc i p && emptyL q
        | _, _ => false
      | none => false) = true := h
    cases e : asCmp x with
    | none => rw [e] at h'; cases h'
    | some t =>
      obtain ⟨p, os, qs⟩ := t
      rw [e] at h'
      obtain ⟨pp, hx⟩ := asCmp_eq e
      match os, qs, h', hx with
      | [], _, h', _ => cases h'
      | _ :: _ :: _, _, h', _ => cases h'
      | [_], [], h', _ => cases h'
      | [_], _ :: _ :: _, h', _ => cases h'
      | [o'], [q], h', hx =>
        obtain ⟨h0, h2⟩ := and2 h'
        obtain ⟨h0, h1⟩ := and2 h0
        have h0 := of_decide_eq_true h0
        subst h0
        subst hx
        exact snd_oemp g h1 h2 pp
  | .lenDC a tg it, sc, ow, X, Z, x, g, h => by
    have h' : (match asCall x with
      | some (p, xs, ks) => match xs with
        | [y] => ks.isEmpty && gnameIs sc "len" p && (match asDictComp y with
          | some (kx, vx, gs, scp) => match gs with
            | [⟨tx, ix, ifs, as⟩] => decide (as = 0) && ifs.isEmpty && decide (asConst vx = some (.bool true)) && notSet ix && chkIt L N it tx sc ow ix && blkC N sc scp (ownOf N tg.slots) && chkT N scp tg tx && chkE L N a (relS scp sc) scp kx
            | _ => false
          | none => false)
        | _ => false
      | none => false) = true := h
    cases e : asCall x with
    | none => rw [e] at h'; cases h'
    | some t =>
      obtain ⟨p, xs, ks⟩ := t
      rw [e] at h'
      obtain ⟨pos, hx⟩ := asCall_eq e
      match xs, h', hx with
      | [], h', _ => cases h'
      | _ :: _ :: _, h', _ => cases h'
      | [y], h', hx =>
        subst hx
        obtain ⟨h0, h2⟩ := and2 h'
        obtain ⟨h0, h1⟩ := and2 h0
        cases ks with
        | cons _ _ => cases h0
        | nil =>
          cases e2 : asDictComp y with
          | none => rw [e2] at h2; cases h2
          | some t =>
            obtain ⟨kx, vx, gs, scp⟩ := t
            rw [e2] at h2
            obtain ⟨pos2, hy2⟩ := asDictComp_eq e2
            match gs, h2, hy2 with
            | [], h2, _ => cases h2
            | ⟨_, _, _, _⟩ :: _ :: _, h2, _ => cases h2
            | [⟨tx, ix, ifs, as⟩], h2, hy2 =>
              subst hy2
              obtain ⟨g0, g7⟩ := and2 h2
              obtain ⟨g0, g6⟩ := and2 g0
              obtain ⟨g0, g5⟩ := and2 g0
              obtain ⟨g0, g4⟩ := and2 g0
              obtain ⟨g0, g3⟩ := and2 g0
              obtain ⟨g0, g2⟩ := and2 g0
              obtain ⟨g0, g1⟩ := and2 g0
              have g0 := of_decide_eq_true g0
              subst g0
              cases ifs with
              | cons _ _ => cases g1
              | nil =>
                have ok : BlkOk X.N X.env.scope scp (ownOf N tg.slots) := by
                  rw [g.eN, g.sc]
                  exact blkOk_by g5
                exact snd_lenDC hy g h1 (sndIt hy it tx ix g g4) ok (ownOf_snd N _) (fun s H C cl fp => sndT tg tx (g.blk s H C cl fp) g6) (fun s H C cl fp => (sndE hy a kx (g.blk s H C cl fp) g7).pe) (of_decide_eq_true g2) (fun x => fold_no g3 x)
  | .lenSet f, sc, ow, X, Z, x, g, h => by cases h
  | .fld a y, sc, ow, X, Z, x, g, h => by
    have h' : (match asAttr x with
      | some (o, n) => decide (n = y) && plainO o && chkE L N a sc ow o
      | none => false) = true := h
    cases e : asAttr x with
    | none => rw [e] at h'; cases h'
    | some t =>
      obtain ⟨o, n⟩ := t
      rw [e] at h'
      obtain ⟨pos, rfl⟩ := asAttr_eq e
      obtain ⟨h0, h2⟩ := and2 h'
      obtain ⟨h0, h1⟩ := and2 h0
      have h0 := of_decide_eq_true h0
      subst h0
      exact snd_fld g h1 (sndE hy a o g h2) pos
  | .prop n a, sc, ow, X, Z, x, g, h => by
    have h' : (match asAttr x with
      | some (o, y) => decide (L.pn n = some y) && plainO o && chkE L N a sc ow o
      | none => false) = true := h
    cases e : asAttr x with
    | none => rw [e] at h'; cases h'
    | some t =>
      obtain ⟨o, y⟩ := t
      rw [e] at h'
      obtain ⟨pos, rfl⟩ := asAttr_eq e
      obtain ⟨h0, h2⟩ := and2 h'
      obtain ⟨h0, h1⟩ := and2 h0
      exact snd_prop hy g (of_decide_eq_true h0) h1 (sndE hy a o g h2) pos
  | .meth n a es ds, sc, ow, X, Z, x, g, h => by
    have h' : (match asMeth x with
      | some (o, y, ap, xs, ks, p) => ks.isEmpty && decide (L.mn n = some y) && plainO o && (ap.endLine == p.line) && decide (xs.length < 20) && decide (ds ∈ L.dfl n) && chkE L N a sc ow o && xs.all notStar && chkEs L N es sc ow xs
      | none => false) = true := h
    cases e : asMeth x with
    | none => rw [e] at h'; cases h'
    | some t =>
      obtain ⟨o, y, ap, xs, ks, p⟩ := t
      rw [e] at h'
      have hx := asMeth_eq e
      subst hx
      obtain ⟨h0, h8⟩ := and2 h'
      obtain ⟨h0, h7⟩ := and2 h0
      obtain ⟨h0, h6⟩ := and2 h0
      obtain ⟨h0, h5⟩ := and2 h0
      obtain ⟨h0, h4⟩ := and2 h0
      obtain ⟨h0, h3⟩ := and2 h0
      obtain ⟨h0, h2⟩ := and2 h0
      obtain ⟨h0, h1⟩ := and2 h0
      cases ks with
      | cons _ _ => cases h0
      | nil =>
        have l := chkEs_len es sc ow xs h8
        exact snd_meth hy g (of_decide_eq_true h1) h2 h3 h7 (of_decide_eq_true h4) (of_decide_eq_true h5) (sndE hy a o g h6) (sndEs hy es xs g h8) (fun e0 env hh => by
          subst e0
          cases es with
          | nil => rfl
          | cons _ _ => cases l)
  | .new n es ds, sc, ow, X, Z, x, g, h => by
    have h' : (match asCall x with
      | some (p, xs, ks) => ks.isEmpty && (match L.cn n with
        | some nm => gnameIs sc nm p
        | none => false) && decide (ds ∈ L.dfl n) && !xs.isEmpty && xs.all notStar && chkEs L N es sc ow xs
      | none => false) = true := h
    cases e : asCall x with
    | none => rw [e] at h'; cases h'
    | some t =>
      obtain ⟨p, xs, ks⟩ := t
      rw [e] at h'
      obtain ⟨pos, rfl⟩ := asCall_eq e
      obtain ⟨h0, h5⟩ := and2 h'
      obtain ⟨h0, h4⟩ := and2 h0
      obtain ⟨h0, h3⟩ := and2 h0
      obtain ⟨h0, h2⟩ := and2 h0
      obtain ⟨h0, h1⟩ := and2 h0
      cases ks with
      | cons _ _ => cases h0
      | nil =>
        cases hn : L.cn n with
        | none => rw [hn] at h1; cases h1
        | some nm =>
          rw [hn] at h1
          exact snd_new hy g hn h1 (of_decide_eq_true h2) h3 h4 (sndEs hy es xs g h5) pos
  | .join a b, sc, ow, X, Z, x, g, h => by
    have h' : (match asMeth x with
      | some (o, y, ap, xs, ks, p) => match xs with
        | [z] => ks.isEmpty && decide (y = ("join" : Str)) && plainO o && (ap.endLine == p.line) && notStar z && chkE L N a sc ow o && chkE L N b sc ow z
        | _ => false
      | none => false) = true := h
    cases e : asMeth x with
    | none => rw [e] at h'; cases h'
    | some t =>
      obtain ⟨o, y, ap, xs, ks, p⟩ := t
      rw [e] at h'
      have hx := asMeth_eq e
      match xs, h', hx with
      | [], h', _ => cases h'
      | _ :: _ :: _, h', _ => cases h'
      | [z], h', hx =>
        subst hx
        obtain ⟨h0, h6⟩ := and2 h'
        obtain ⟨h0, h5⟩ := and2 h0
        obtain ⟨h0, h4⟩ := and2 h0
        obtain ⟨h0, h3⟩ := and2 h0
        obtain ⟨h0, h2⟩ := and2 h0
        obtain ⟨h0, h1⟩ := and2 h0
        have h1 := of_decide_eq_true h1
        subst h1
        cases ks with
        | cons _ _ => cases h0
        | nil => exact snd_join g h2 h3 h4 (sndE hy a o g h5) (sndE hy b z g h6)
  | .fstr es, sc, ow, X, Z, x, g, h => by
    have h' : (match asJoined x with
      | some xs => match xs with
        | _ :: _ :: _ => chkJ L N es sc ow xs
        | _ => false
      | none => false) = true := h
    cases e : asJoined x with
    | none => rw [e] at h'; cases h'
    | some xs =>
      rw [e] at h'
      obtain ⟨pos, hx⟩ := asJoined_eq e
      match xs, h', hx with
      | [], h', _ => cases h'
      | [_], h', _ => cases h'
      | y :: z :: r, h', hx =>
        subst hx
        exact snd_fstr (sndJ hy es (y :: z :: r) g h')
  | .star a, sc, ow, X, Z, x, g, h => sndE hy a x g h
  | .dcomp kk vv tg it, sc, ow, X, Z, x, g, h => by
    have h' : (match asDictComp x with
      | some (kx, vx, gs, scp) => match gs with
        | [⟨tx, ix, ifs, as⟩] => decide (as = 0) && ifs.isEmpty && notSet ix && chkIt L N it tx sc ow ix && blkC N sc scp (ownOf N tg.slots) && chkT N scp tg tx && chkE L N kk (relS scp sc) scp kx && chkE L N vv (relS scp sc) scp vx
        | _ => false
      | none => false) = true := h
    cases e2 : asDictComp x with
    | none => rw [e2] at h'; cases h'
    | some t =>
      obtain ⟨kx, vx, gs, scp⟩ := t
      rw [e2] at h'
      obtain ⟨pos2, hy2⟩ := asDictComp_eq e2
      match gs, h', hy2 with
      | [], h2, _ => cases h2
      | ⟨_, _, _, _⟩ :: _ :: _, h2, _ => cases h2
      | [⟨tx, ix, ifs, as⟩], h2, hy2 =>
        subst hy2
        obtain ⟨g0, g7⟩ := and2 h2
        obtain ⟨g0, g6⟩ := and2 g0
        obtain ⟨g0, g5⟩ := and2 g0
        obtain ⟨g0, g4⟩ := and2 g0
        obtain ⟨g0, g3⟩ := and2 g0
        obtain ⟨g0, g2⟩ := and2 g0
        obtain ⟨g0, g1⟩ := and2 g0
        have g0 := of_decide_eq_true g0
        subst g0
        cases ifs with
        | cons _ _ => cases g1
        | nil =>
          have ok : BlkOk X.N X.env.scope scp (ownOf N tg.slots) := by
            rw [g.eN, g.sc]
            exact blkOk_by g4
          exact snd_dcomp g (sndIt hy it tx ix g g3) ok (ownOf_snd N _) (fun s H C cl fp => sndT tg tx (g.blk s H C cl fp) g5) (fun s H C cl fp => (sndE hy kk kx (g.blk s H C cl fp) g6).pe) (fun s H C cl fp => (sndE hy vv vx (g.blk s H C cl fp) g7).pe) (fun x => fold_no g2 x)
  | .dget d kk e, sc, ow, X, Z, x, g, h => by
    have h' : (match asMeth x with
      | some (o, y, ap, xs, ks, p) => match xs with
        | [z, z2] => ks.isEmpty && decide (y = ("get" : Str)) && plainO o && (ap.endLine == p.line) && notStar z && notStar z2 && chkE L N d sc ow o && chkE L N kk sc ow z && chkE L N e sc ow z2
        | _ => false
      | none => false) = true := h
    cases ee : asMeth x with
    | none => rw [ee] at h'; cases h'
    | some t =>
      obtain ⟨o, y, ap, xs, ks, p⟩ := t
      rw [ee] at h'
      have hx := asMeth_eq ee
      match xs, h', hx with
      | [], h', _ => cases h'
      | [_], h', _ => cases h'
      | _ :: _ :: _ :: _, h', _ => cases h'
      | [z, z2], h', hx =>
        subst hx
        obtain ⟨h0, h8⟩ := and2 h'
        obtain ⟨h0, h7⟩ := and2 h0
        obtain ⟨h0, h6⟩ := and2 h0
        obtain ⟨h0, h5⟩ := and2 h0
        obtain ⟨h0, h4⟩ := and2 h0
        obtain ⟨h0, h3⟩ := and2 h0
        obtain ⟨h0, h2⟩ := and2 h0
        obtain ⟨h0, h1⟩ := and2 h0
        have h1 := of_decide_eq_true h1
        subst h1
        cases ks with
        | cons _ _ => cases h0
        | nil => exact snd_dget g h2 h3 h4 h5 (sndE hy d o g h6) (sndE hy kk z g h7) (sndE hy e z2 g h8)
  | .eqI n neg a b, sc, ow, X, Z, x, g, h => by
    have h' : (match asCmp x with
      | some (p, os, qs) => match os, qs with
        | [o'], [q] => decide (o' = if neg then .NotEq else .Eq) && notSet q && L.eq n && chkE L N a sc ow p && chkE L N b sc ow q
        | _, _ => false
      | none => false) = true := h
    cases e : asCmp x with
    | none => rw [e] at h'; cases h'
    | some t =>
      obtain ⟨p, os, qs⟩ := t
      rw [e] at h'
      obtain ⟨pos, hx⟩ := asCmp_eq e
      match os, qs, h', hx with
      | [], _, h', _ => cases h'
      | _ :: _ :: _, _, h', _ => cases h'
      | [_], [], h', _ => cases h'
      | [_], _ :: _ :: _, h', _ => cases h'
      | [o'], [q], h', hx =>
        obtain ⟨h0, h4⟩ := and2 h'
        obtain ⟨h0, h3⟩ := and2 h0
        obtain ⟨h0, h2⟩ := and2 h0
        obtain ⟨h0, h1⟩ := and2 h0
        have h0 := of_decide_eq_true h0
        subst h0
        subst hx
        exact snd_eqI hy g h2 neg (sndE hy a p g h3) (sndE hy b q g h4) h1 pos
  | .lenI n a, sc, ow, X, Z, x, g, h => by cases h
  | .oget i a b, sc, ow, X, Z, x, g, h => by
    have h' : (match asMeth x with
      | some (o, y, ap, xs, ks, p) => match xs with
        | [z, z2] => ks.isEmpty && decide (y = ("get" : Str)) && (ap.endLine == p.line) && notStar z && notStar z2 && nameIs N sc i o && chkE L N a sc ow z && chkE L N b sc ow z2
        | _ => false
      | none => false) = true := h
    cases e : asMeth x with
    | none => rw [e] at h'; cases h'
    | some t =>
      obtain ⟨o, y, ap, xs, ks, p⟩ := t
      rw [e] at h'
      have hx := asMeth_eq e
      match xs, h', hx with
      | [], h', _ => cases h'
      | [_], h', _ => cases h'
      | _ :: _ :: _ :: _, h', _ => cases h'
      | [z, z2], h', hx =>
        subst hx
        obtain ⟨h0, h7⟩ := and2 h'
        obtain ⟨h0, h6⟩ := and2 h0
        obtain ⟨h0, h5⟩ := and2 h0
        obtain ⟨h0, h4⟩ := and2 h0
        obtain ⟨h0, h3⟩ := and2 h0
        obtain ⟨h0, h2⟩ := and2 h0
        obtain ⟨h0, h1⟩ := and2 h0
        have h1 := of_decide_eq_true h1
        subst h1
        cases ks with
        | cons _ _ => cases h0
        | nil => exact snd_oget g h5 h2 h3 h4 (sndE hy a z g h6) (sndE hy b z2 g h7)
  | .otup i, sc, ow, X, Z, x, g, h => by
    have h' : (match asCall x with
      | some (p, xs, ks) => match xs with
        | [y] => ks.isEmpty && gnameIs sc "tuple" p && (match asMeth y with
          | some (o, n, ap, es, ks2, cp) => es.isEmpty && ks2.isEmpty && decide (n = ("items" : Str)) && (ap.endLine == cp.line) && nameIs N sc i o
          | none => false)
        | _ => false
      | none => false) = true := h
    cases e : asCall x with
    | none => rw [e] at h'; cases h'
    | some t =>
      obtain ⟨p, xs, ks⟩ := t
      rw [e] at h'
      obtain ⟨pos, hx⟩ := asCall_eq e
      match xs, h', hx with
      | [], h', _ => cases h'
      | _ :: _ :: _, h', _ => cases h'
      | [y], h', hx =>
        subst hx
        obtain ⟨h0, h2⟩ := and2 h'
        obtain ⟨h0, h1⟩ := and2 h0
        cases ks with
        | cons _ _ => cases h0
        | nil =>
          cases e2 : asMeth y with
          | none => rw [e2] at h2; cases h2
          | some t =>
            obtain ⟨o, n, ap, es, ks2, cp⟩ := t
            rw [e2] at h2
            have hx2 := asMeth_eq e2
            subst hx2
            obtain ⟨h3, h7⟩ := and2 h2
            obtain ⟨h3, h6⟩ := and2 h3
            obtain ⟨h3, h5⟩ := and2 h3
            obtain ⟨h3, h4⟩ := and2 h3
            have h5 := of_decide_eq_true h5
            subst h5
            cases es with
            | cons _ _ => cases h3
            | nil =>
              cases ks2 with
              | cons _ _ => cases h4
              | nil => exact snd_otup hy g h1 h7 h6
  | .dsp ns es, sc, ow, X, Z, x, g, h => by
    have h' : (match asDict x with
      | some (ks, vs) => chkKs ns ks && (decide (ns.length = es.length) && (decide (0 < ns.length) && (decide (ns.length ≤ 15) && (decide ns.Nodup && (es.all (fun e => !isStarE e) && chkEs L N es sc ow vs)))))
      | none => false) = true := h
    cases e : asDict x with
    | none => rw [e] at h'; cases h'
    | some t =>
      obtain ⟨ks, vs⟩ := t
      rw [e] at h'
      obtain ⟨h1, h'⟩ := and2 h'
      obtain ⟨h2, h'⟩ := and2 h'
      obtain ⟨h3, h'⟩ := and2 h'
      obtain ⟨h4, h'⟩ := and2 h'
      obtain ⟨h5, h'⟩ := and2 h'
      obtain ⟨h6, h7⟩ := and2 h'
      obtain ⟨pos, rfl⟩ := asDict_eq e
      have h2 := of_decide_eq_true h2
      have h3 := of_decide_eq_true h3
      have h4 := of_decide_eq_true h4
      have h5 := of_decide_eq_true h5
      obtain ⟨k1, k2⟩ := chkKs_len ns ks h1
      have lv := chkEs_len es sc ow vs h7
      exact snd_dsp (sndPs hy es ns ks vs pos g h1 h2 h6 h7) k2 (by omega) (fun z => by rw [z] at k1; simp at k1; omega) (by omega) h4 h5 fun env h vs h' q => by
        rw [evEs_len es env h vs h' h6 q, h2]
theorem sndJ (hy : Hyp U W L k) : ∀ (es : List E) {sc ow : Scope} {X : Cx} {Z : WX} (xs : List Expr), Gd W k N sc ow X Z → chkJ L N es sc ow xs = true → JOk W X Z (fun acc => evJ (callD U k) es acc) xs
  | [], sc, ow, X, Z, xs, g, h => by
    cases xs with
    | nil => exact j_nil
    | cons _ _ => cases h
  | e :: es, sc, ow, X, Z, xs, g, h => by
    cases xs with
    | nil => cases h
    | cons x xs =>
      obtain ⟨h1, h2⟩ := and2 (show ((match asFmt x with
        | some y => chkE L N e sc ow y
        | none => isLitS e && chkE L N e sc ow x) && chkJ L N es sc ow xs) = true from h)
      have r := sndJ hy es xs g h2
      cases ef : asFmt x with
      | some y =>
        rw [ef] at h1
        obtain ⟨p, rfl⟩ := asFmt_eq ef
        exact j_fmt (sndE hy e y g h1) r
      | none =>
        rw [ef] at h1
        obtain ⟨h3, h4⟩ := and2 h1
        refine j_txt (sndE hy e x g h4) (fun env hh => ?_) r
        clear h4 ef h h2 h1
        cases e with
        | lit l =>
          cases l with
          | str y => exact ⟨y, rfl⟩
          | _ => cases h3
        | _ => cases h3
theorem sndPs (hy : Hyp U W L k) : ∀ (es : List E) {sc ow : Scope} {X : Cx} {Z : WX} (ns : List Str) (ks : List (Option Expr)) (vs : List Expr) (pos : Pos), Gd W k N sc ow X Z → chkKs ns ks = true → ns.length = es.length → es.all (fun e => !isStarE e) = true → chkEs L N es sc ow vs = true → PsOf W X Z pos ns ks vs (evEs (callD U k) es)
  | [], sc, ow, X, Z, ns, ks, vs, pos, g, h1, h2, h3, h4 => by
    cases ns with
    | cons _ _ => cases h2
    | nil =>
      cases ks with
      | cons _ _ => cases h1
      | nil =>
        cases vs with
        | cons _ _ => cases h4
        | nil => exact ps_of0
  | e :: es, sc, ow, X, Z, ns, ks, vs, pos, g, h1, h2, h3, h4 => by
    cases ns with
    | nil => cases h2
    | cons n ns =>
      cases ks with
      | nil => cases h1
      | cons o ks =>
        cases o with
        | none => cases h1
        | some x =>
          have h1' : (match asConst x with
            | some c => decide (c = (Lit.str n).const) && chkKs ns ks
            | none => false) = true := h1
          cases ec : asConst x with
          | none => rw [ec] at h1'; cases h1'
          | some c =>
            rw [ec] at h1'
            obtain ⟨q1, q2⟩ := and2 h1'
            cases vs with
            | nil => cases h4
            | cons z vs =>
              obtain ⟨q0, q4⟩ := and2 (show ((if isStarE e then (match asStar z with
                | some y => chkE L N e sc ow y
                | none => false) else notStar z && chkE L N e sc ow z) && chkEs L N es sc ow vs) = true from h4)
              rw [List.all_cons, Bool.and_eq_true] at h3
              have hs : isStarE e = false := by
                have := h3.1
                revert this
                cases isStarE e <;> simp
              rw [hs, if_neg Bool.false_ne_true] at q0
              obtain ⟨_, q3⟩ := and2 q0
              have ee : evEs (callD U k) (e :: es) = fun env h => (evE (callD U k) e env h).bind fun x h => (evEs (callD U k) es env h).bind fun r h => .ok (x :: r) h := by
                funext env h
                show (evE (callD U k) e env h).bind (fun x h => (ofOpt (spl (isStarE e) x) h).bind fun xs h => (evEs (callD U k) es env h).bind fun r h => .ok (xs ++ r) h) = _
                rw [hs]
                rfl
              rw [ee]
              exact ps_of1 (snd_lit (Lit.str n) ec (of_decide_eq_true q1)) (sndE hy e z g q3) (sndPs hy es ns ks vs pos g q2 (Nat.succ.inj h2) h3.2 q4)
theorem sndEs (hy : Hyp U W L k) : ∀ (es : List E) {sc ow : Scope} {X : Cx} {Z : WX} (xs : List Expr), Gd W k N sc ow X Z → chkEs L N es sc ow xs = true → PA X xs (RDs W Z (evEs (callD U k) es))
  | [], sc, ow, X, Z, xs, g, h => by
    cases xs with
    | nil => exact snd_pa0
    | cons _ _ => cases h
  | e :: es, sc, ow, X, Z, xs, g, h => by
    cases xs with
    | nil => cases h
    | cons x xs =>
      obtain ⟨h0, h2⟩ := and2 (show ((if isStarE e then (match asStar x with
        | some y => chkE L N e sc ow y
        | none => false) else notStar x && chkE L N e sc ow x) && chkEs L N es sc ow xs) = true from h)
      cases hb : isStarE e with
      | false =>
        rw [hb, if_neg Bool.false_ne_true] at h0
        obtain ⟨h0, h1⟩ := and2 h0
        have ee : evEs (callD U k) (e :: es) = fun env h => (evE (callD U k) e env h).bind fun x h => (evEs (callD U k) es env h).bind fun r h => .ok (x :: r) h := by
          funext env h
          show (evE (callD U k) e env h).bind (fun x h => (ofOpt (spl (isStarE e) x) h).bind fun xs h => (evEs (callD U k) es env h).bind fun r h => .ok (xs ++ r) h) = _
          rw [hb]
          rfl
        rw [ee]
        exact snd_pa1 (sndE hy e x g h1) (sndEs hy es xs g h2) h0
      | true =>
        rw [hb, if_pos rfl] at h0
        have ee : evEs (callD U k) (e :: es) = fun env h => (evE (callD U k) e env h).bind fun x h => (ofOpt (itemsOf x) h).bind fun ys h => (evEs (callD U k) es env h).bind fun r h => .ok (ys ++ r) h := by
          funext env h
          show (evE (callD U k) e env h).bind (fun x h => (ofOpt (spl (isStarE e) x) h).bind fun xs h => (evEs (callD U k) es env h).bind fun r h => .ok (xs ++ r) h) = _
          rw [hb]
          rfl
        rw [ee]
        cases es' : asStar x with
        | none => rw [es'] at h0; cases h0
        | some y =>
          rw [es'] at h0
          obtain ⟨p, rfl⟩ := asStar_eq es'
          exact snd_pastar g (sndE hy e y g h0) (sndEs hy es xs g h2)
theorem sndO (hy : Hyp U W L k) : ∀ (o : Option E) {sc ow : Scope} {X : Cx} {Z : WX} (x : Option Expr), Gd W k N sc ow X Z → chkO L N o sc ow x = true → PO X x (RDo W Z (evO (callD U k) o))
  | none, sc, ow, X, Z, x, g, h => by
    cases x with
    | none => exact snd_po0
    | some _ => cases h
  | some e, sc, ow, X, Z, x, g, h => by
    cases x with
    | none => cases h
    | some x => exact snd_po1 (sndE hy e x g h)
theorem sndF (hy : Hyp U W L k) : ∀ (f : FE) {sc ow : Scope} {X : Cx} {Z : WX} (x : Expr), Gd W k N sc ow X Z → chkF L N f sc ow x = true → PE X x (RDf W Z (evF (callD U k) f)) ∧ ownTest x = false
  | .lst es, sc, ow, X, Z, x, g, h => by
    have h' : (match asList x with
      | some xs => decide (xs.length ≤ 1000) && es.all (fun e => !isStarE e) && chkEs L N es sc ow xs
      | none => false) = true := h
    cases e : asList x with
    | none => rw [e] at h'; cases h'
    | some xs =>
      rw [e] at h'
      obtain ⟨h0, h1⟩ := and2 h'
      obtain ⟨h0, hst⟩ := and2 h0
      obtain ⟨pos, rfl⟩ := asList_eq e
      have l0 := of_decide_eq_true h0
      exact ⟨snd_lst (sndEs hy es xs g h1) (fun env h vs h' q => by
        rw [evEs_len es env h vs h' hst q, ← chkEs_len es sc ow xs h1]
        exact Nat.le_trans l0 (by decide)) pos, rfl⟩
  | .lstS es, sc, ow, X, Z, x, g, h => by
    have h' : (match asList x with
      | some xs => chkEs L N es sc ow xs
      | none => false) = true := h
    cases e : asList x with
    | none => rw [e] at h'; cases h'
    | some xs =>
      rw [e] at h'
      obtain ⟨pos, rfl⟩ := asList_eq e
      exact ⟨snd_lstS (sndEs hy es xs g h') pos, rfl⟩
  | .split a b, sc, ow, X, Z, x, g, h => by
    have h' : (match asMeth x with
      | some (o, y, ap, xs, ks, p) => match xs with
        | [z] => ks.isEmpty && decide (y = ("split" : Str)) && plainO o && (ap.endLine == p.line) && notStar z && chkE L N a sc ow o && chkE L N b sc ow z
        | _ => false
      | none => false) = true := h
    cases e : asMeth x with
    | none => rw [e] at h'; cases h'
    | some t =>
      obtain ⟨o, y, ap, xs, ks, p⟩ := t
      rw [e] at h'
      have hx := asMeth_eq e
      match xs, h', hx with
      | [], h', _ => cases h'
      | _ :: _ :: _, h', _ => cases h'
      | [z], h', hx =>
        subst hx
        obtain ⟨h0, h6⟩ := and2 h'
        obtain ⟨h0, h5⟩ := and2 h0
        obtain ⟨h0, h4⟩ := and2 h0
        obtain ⟨h0, h3⟩ := and2 h0
        obtain ⟨h0, h2⟩ := and2 h0
        obtain ⟨h0, h1⟩ := and2 h0
        have h1 := of_decide_eq_true h1
        subst h1
        cases ks with
        | cons _ _ => cases h0
        | nil => exact ⟨snd_split g h2 h3 h4 (sndE hy a o g h5) (sndE hy b z g h6), rfl⟩
  | .of a, sc, ow, X, Z, x, g, h => by
    have h' : (match asCall x with
      | some (p, xs, ks) => match xs with
        | [y] => ks.isEmpty && gnameIs sc "list" p && notStar y && chkE L N a sc ow y
        | _ => false
      | none => false) = true := h
    cases e : asCall x with
    | none => rw [e] at h'; cases h'
    | some t =>
      obtain ⟨p, xs, ks⟩ := t
      rw [e] at h'
      obtain ⟨pos, hx⟩ := asCall_eq e
      match xs, h', hx with
      | [], h', _ => cases h'
      | _ :: _ :: _, h', _ => cases h'
      | [y], h', hx =>
        subst hx
        obtain ⟨h0, h3⟩ := and2 h'
        obtain ⟨h0, h2⟩ := and2 h0
        obtain ⟨h0, h1⟩ := and2 h0
        cases ks with
        | cons _ _ => cases h0
        | nil => exact ⟨snd_of hy g h1 h2 (sndE hy a y g h3) pos, rfl⟩
  | .ofIt it, sc, ow, X, Z, x, g, h => by
    cases it with
    | rng1 b =>
      have h' : (match asCall x with
        | some (p, xs, ks) => match xs with
          | [y] => match asCall y with
            | some (p2, ys, ks2) => match ys with
              | [z] => ks.isEmpty && ks2.isEmpty && gnameIs sc "list" p && gnameIs sc "range" p2 && notStar z && chkE L N b sc ow z
              | _ => false
            | none => false
          | _ => false
        | none => false) = true := h
      cases e : asCall x with
      | none => rw [e] at h'; cases h'
      | some t =>
        obtain ⟨p, xs, ks⟩ := t
        rw [e] at h'
        obtain ⟨pos, hx⟩ := asCall_eq e
        match xs, h', hx with
        | [], h', _ => cases h'
        | _ :: _ :: _, h', _ => cases h'
        | [y], h', hx =>
          subst hx
          have h'' : (match asCall y with
            | some (p2, ys, ks2) => match ys with
              | [z] => ks.isEmpty && ks2.isEmpty && gnameIs sc "list" p && gnameIs sc "range" p2 && notStar z && chkE L N b sc ow z
              | _ => false
            | none => false) = true := h'
          cases e2 : asCall y with
          | none => rw [e2] at h''; cases h''
          | some t =>
            obtain ⟨p2, ys, ks2⟩ := t
            rw [e2] at h''
            obtain ⟨pos2, hx2⟩ := asCall_eq e2
            match ys, h'', hx2 with
            | [], h', _ => cases h'
            | _ :: _ :: _, h', _ => cases h'
            | [z], h', hx2 =>
              subst hx2
              obtain ⟨h0, h5⟩ := and2 h'
              obtain ⟨h0, h4⟩ := and2 h0
              obtain ⟨h0, h3⟩ := and2 h0
              obtain ⟨h0, h2⟩ := and2 h0
              obtain ⟨h0, h1⟩ := and2 h0
              cases ks with
              | cons _ _ => cases h0
              | nil =>
                cases ks2 with
                | cons _ _ => cases h1
                | nil => exact ⟨snd_lrng1 hy g h2 h3 h4 (sndE hy b z g h5) pos pos2, rfl⟩
    | rng2 a b =>
      have h' : (match asCall x with
        | some (p, xs, ks) => match xs with
          | [y] => match asCall y with
            | some (p2, ys, ks2) => match ys with
              | [z, z2] => ks.isEmpty && ks2.isEmpty && gnameIs sc "list" p && gnameIs sc "range" p2 && notStar z && notStar z2 && chkE L N a sc ow z && chkE L N b sc ow z2
              | _ => false
            | none => false
          | _ => false
        | none => false) = true := h
      cases e : asCall x with
      | none => rw [e] at h'; cases h'
      | some t =>
        obtain ⟨p, xs, ks⟩ := t
        rw [e] at h'
        obtain ⟨pos, hx⟩ := asCall_eq e
        match xs, h', hx with
        | [], h', _ => cases h'
        | _ :: _ :: _, h', _ => cases h'
        | [y], h', hx =>
          subst hx
          have h'' : (match asCall y with
            | some (p2, ys, ks2) => match ys with
              | [z, z2] => ks.isEmpty && ks2.isEmpty && gnameIs sc "list" p && gnameIs sc "range" p2 && notStar z && notStar z2 && chkE L N a sc ow z && chkE L N b sc ow z2
              | _ => false
            | none => false) = true := h'
          cases e2 : asCall y with
          | none => rw [e2] at h''; cases h''
          | some t =>
            obtain ⟨p2, ys, ks2⟩ := t
            rw [e2] at h''
            obtain ⟨pos2, hx2⟩ := asCall_eq e2
            match ys, h'', hx2 with
            | [], h', _ => cases h'
            | [_], h', _ => cases h'
            | _ :: _ :: _ :: _, h', _ => cases h'
            | [z, z2], h', hx2 =>
              subst hx2
              obtain ⟨h0, h7⟩ := and2 h'
              obtain ⟨h0, h6⟩ := and2 h0
              obtain ⟨h0, h5⟩ := and2 h0
              obtain ⟨h0, h4⟩ := and2 h0
              obtain ⟨h0, h3⟩ := and2 h0
              obtain ⟨h0, h2⟩ := and2 h0
              obtain ⟨h0, h1⟩ := and2 h0
              cases ks with
              | cons _ _ => cases h0
              | nil =>
                cases ks2 with
                | cons _ _ => cases h1
                | nil => exact ⟨snd_lrng2 hy g h2 h3 h4 h5 (sndE hy a z g h6) (sndE hy b z2 g h7) pos pos2, rfl⟩
    | seq _ => cases h
    | enum _ => cases h
    | zip _ _ => cases h
  | .items i, sc, ow, X, Z, x, g, h => by
    have h' : (match asCall x with
      | some (p, xs, ks) => match xs with
        | [y] => ks.isEmpty && gnameIs sc "list" p && (match asMeth y with
          | some (o, n, ap, es, ks2, cp) => es.isEmpty && ks2.isEmpty && decide (n = ("items" : Str)) && (ap.endLine == cp.line) && nameIs N sc i o
          | none => false)
        | _ => false
      | none => false) = true := h
    cases e : asCall x with
    | none => rw [e] at h'; cases h'
    | some t =>
      obtain ⟨p, xs, ks⟩ := t
      rw [e] at h'
      obtain ⟨pos, hx⟩ := asCall_eq e
      match xs, h', hx with
      | [], h', _ => cases h'
      | _ :: _ :: _, h', _ => cases h'
      | [y], h', hx =>
        subst hx
        obtain ⟨h0, h2⟩ := and2 h'
        obtain ⟨h0, h1⟩ := and2 h0
        cases ks with
        | cons _ _ => cases h0
        | nil =>
          cases e2 : asMeth y with
          | none => rw [e2] at h2; cases h2
          | some t =>
            obtain ⟨o, n, ap, es, ks2, cp⟩ := t
            rw [e2] at h2
            have hy2 := asMeth_eq e2
            subst hy2
            obtain ⟨g0, g4⟩ := and2 h2
            obtain ⟨g0, g3⟩ := and2 g0
            obtain ⟨g0, g2⟩ := and2 g0
            obtain ⟨g0, g1⟩ := and2 g0
            have g2 := of_decide_eq_true g2
            subst g2
            cases es with
            | cons _ _ => cases g0
            | nil =>
              cases ks2 with
              | cons _ _ => cases g1
              | nil => exact ⟨snd_items hy g h1 g4 g3, rfl⟩
  | .rep f e, sc, ow, X, Z, x, g, h => by
    have h' : (match asBin x with
      | some (p, o, q) => decide (o = .Mult) && chkF L N f sc ow p && chkE L N e sc ow q
      | none => false) = true := h
    cases e2 : asBin x with
    | none => rw [e2] at h'; cases h'
    | some t =>
      obtain ⟨p, o', q⟩ := t
      rw [e2] at h'
      obtain ⟨h0, h2⟩ := and2 h'
      obtain ⟨h0, h1⟩ := and2 h0
      have h0 := of_decide_eq_true h0
      subst h0
      obtain ⟨pos, rfl⟩ := asBin_eq e2
      exact ⟨snd_rep (sndF hy f p g h1).1 (sndE hy e q g h2) pos, rfl⟩
  | .sset a, sc, ow, X, Z, x, g, h => by
    have h' : (match asCall x with
      | some (p, xs, ks) => match xs with
        | [y] => match asCall y with
          | some (p2, ys, ks2) => match ys with
            | [z] => ks.isEmpty && ks2.isEmpty && gnameIs sc "sorted" p && gnameIs sc "set" p2 && notStar z && chkE L N a sc ow z
            | _ => false
          | none => false
        | _ => false
      | none => false) = true := h
    cases e : asCall x with
    | none => rw [e] at h'; cases h'
    | some t =>
      obtain ⟨p, xs, ks⟩ := t
      rw [e] at h'
      obtain ⟨pos, hx⟩ := asCall_eq e
      match xs, h', hx with
      | [], h', _ => cases h'
      | _ :: _ :: _, h', _ => cases h'
      | [y], h', hx =>
        dsimp only at h'
        cases e2 : asCall y with
        | none => rw [e2] at h'; cases h'
        | some t =>
          obtain ⟨p2, ys, ks2⟩ := t
          rw [e2] at h'
          obtain ⟨pos2, hx2⟩ := asCall_eq e2
          match ys, h', hx2 with
          | [], h', _ => cases h'
          | _ :: _ :: _, h', _ => cases h'
          | [z], h', hx2 =>
            subst hx
            subst hx2
            obtain ⟨h0, h5⟩ := and2 h'
            obtain ⟨h0, h4⟩ := and2 h0
            obtain ⟨h0, h3⟩ := and2 h0
            obtain ⟨h0, h2⟩ := and2 h0
            obtain ⟨h0, h1⟩ := and2 h0
            cases ks with
            | cons _ _ => cases h0
            | nil =>
              cases ks2 with
              | cons _ _ => cases h1
              | nil => exact ⟨snd_sset hy g h2 h3 h4 (sndE hy a z g h5) pos pos2, rfl⟩
  | .cat a b, sc, ow, X, Z, x, g, h => by
    have h' : (match asBin x with
      | some (p, o, q) => decide (o = .Add) && chkE L N a sc ow p && chkE L N b sc ow q
      | none => false) = true := h
    cases e : asBin x with
    | none => rw [e] at h'; cases h'
    | some t =>
      obtain ⟨p, o', q⟩ := t
      rw [e] at h'
      obtain ⟨h0, h2⟩ := and2 h'
      obtain ⟨h0, h1⟩ := and2 h0
      have h0 := of_decide_eq_true h0
      subst h0
      obtain ⟨pos, rfl⟩ := asBin_eq e
      exact ⟨snd_cat (sndE hy a p g h1) (sndE hy b q g h2) pos, rfl⟩
  | .comp e tg it cs, sc, ow, X, Z, x, g, h => by
    have h' : (match asComp x with
      | some (ex, gs, scp) => match gs with
        | [⟨tx, ix, ifs, as⟩] => decide (as = 0) && notSet ix && chkIt L N it tx sc ow ix && blkC N sc scp (ownOf N tg.slots) && chkT N scp tg tx && chkC L N cs (relS scp sc) scp ifs && chkE L N e (relS scp sc) scp ex
        | _ => false
      | none => false) = true := h
    cases e1 : asComp x with
    | none => rw [e1] at h'; cases h'
    | some t =>
      obtain ⟨ex, gs, scp⟩ := t
      rw [e1] at h'
      obtain ⟨pos, hx⟩ := asComp_eq e1
      match gs, h', hx with
      | [], h', _ => cases h'
      | ⟨_, _, _, _⟩ :: _ :: _, h', _ => cases h'
      | [⟨tx, ix, ifs, as⟩], h', hx =>
        subst hx
        obtain ⟨h0, h6⟩ := and2 h'
        obtain ⟨h0, h5⟩ := and2 h0
        obtain ⟨h0, h4⟩ := and2 h0
        obtain ⟨h0, h3⟩ := and2 h0
        obtain ⟨h0, h2⟩ := and2 h0
        obtain ⟨h0, h1⟩ := and2 h0
        have h0 := of_decide_eq_true h0
        subst h0
        have ok : BlkOk X.N X.env.scope scp (ownOf N tg.slots) := by
          rw [g.eN, g.sc]
          exact blkOk_by h3
        exact ⟨comp_ok g.calm g.nd (sndIt hy it tx ix g h2) ok (ownOf_snd N _) (fun s H C cl fp => sndT tg tx (g.blk s H C cl fp) h4) (fun s H C cl fp => sndC hy cs ifs (g.blk s H C cl fp) h5)
          (fun s H C cl fp => (sndE hy e ex (g.blk s H C cl fp) h6).pe) (fun x => fold_no h1 x), rfl⟩
  | .comp2 e tg it tg2 it2 cs, sc, ow, X, Z, x, g, h => by cases h
theorem sndC (hy : Hyp U W L k) : ∀ (cs : List E) {sc ow : Scope} {X : Cx} {Z : WX} (xs : List Expr), Gd W k N sc ow X Z → chkC L N cs sc ow xs = true → PTs X xs (RDg W Z (fun _ _ _ _ b c => b = c) (evC (callD U k) cs))
  | [], sc, ow, X, Z, xs, g, h => by
    cases xs with
    | nil => exact snd_c0
    | cons _ _ => cases h
  | [c], sc, ow, X, Z, xs, g, h => by
    match xs, h with
    | [], h => cases h
    | _ :: _ :: _, h => cases h
    | [x], h =>
      obtain ⟨h0, h1⟩ := and2 (show (notIf x && chkE L N c sc ow x) = true from h)
      exact snd_c1 (sndE hy c x g h1) h0
  | _ :: _ :: _, sc, ow, X, Z, xs, g, h => by cases h
theorem sndIt (hy : Hyp U W L k) : ∀ (it : It) {sc ow : Scope} {X : Cx} {Z : WX} (tx x : Expr), Gd W k N sc ow X Z → chkIt L N it tx sc ow x = true → PI X tx x (RDi W Z (evIt (callD U k) it))
  | .seq e, sc, ow, X, Z, tx, x, g, h => snd_iseq g (sndE hy e x g h)
  | .rng1 b, sc, ow, X, Z, tx, x, g, h => by
    have h' : (match asCall x with
      | some (p, xs, ks) => match xs with
        | [z] => ks.isEmpty && gnameIs sc "range" p && notStar z && chkE L N b sc ow z
        | _ => false
      | none => false) = true := h
    cases e : asCall x with
    | none => rw [e] at h'; cases h'
    | some t =>
      obtain ⟨p, xs, ks⟩ := t
      rw [e] at h'
      obtain ⟨pos, hx⟩ := asCall_eq e
      match xs, h', hx with
      | [], h', _ => cases h'
      | _ :: _ :: _, h', _ => cases h'
      | [z], h', hx =>
        subst hx
        obtain ⟨h0, h3⟩ := and2 h'
        obtain ⟨h0, h2⟩ := and2 h0
        obtain ⟨h0, h1⟩ := and2 h0
        cases ks with
        | cons _ _ => cases h0
        | nil => exact snd_irng1 hy g h1 h2 (sndE hy b z g h3) pos
  | .rng2 a b, sc, ow, X, Z, tx, x, g, h => by
    have h' : (match asCall x with
      | some (p, xs, ks) => match xs with
        | [z, z2] => ks.isEmpty && gnameIs sc "range" p && notStar z && notStar z2 && chkE L N a sc ow z && chkE L N b sc ow z2
        | _ => false
      | none => false) = true := h
    cases e : asCall x with
    | none => rw [e] at h'; cases h'
    | some t =>
      obtain ⟨p, xs, ks⟩ := t
      rw [e] at h'
      obtain ⟨pos, hx⟩ := asCall_eq e
      match xs, h', hx with
      | [], h', _ => cases h'
      | [_], h', _ => cases h'
      | _ :: _ :: _ :: _, h', _ => cases h'
      | [z, z2], h', hx =>
        subst hx
        obtain ⟨h0, h5⟩ := and2 h'
        obtain ⟨h0, h4⟩ := and2 h0
        obtain ⟨h0, h3⟩ := and2 h0
        obtain ⟨h0, h2⟩ := and2 h0
        obtain ⟨h0, h1⟩ := and2 h0
        cases ks with
        | cons _ _ => cases h0
        | nil => exact snd_irng2 hy g h1 h2 h3 (sndE hy a z g h4) (sndE hy b z2 g h5) pos
  | .enum e, sc, ow, X, Z, tx, x, g, h => by
    have h' : (match asCall x with
      | some (p, xs, ks) => match xs with
        | [z] => (asTup tx).isSome && ks.isEmpty && gnameIs sc "enumerate" p && notStar z && chkE L N e sc ow z
        | _ => false
      | none => false) = true := h
    cases e1 : asCall x with
    | none => rw [e1] at h'; cases h'
    | some t =>
      obtain ⟨p, xs, ks⟩ := t
      rw [e1] at h'
      obtain ⟨pos, hx⟩ := asCall_eq e1
      match xs, h', hx with
      | [], h', _ => cases h'
      | _ :: _ :: _, h', _ => cases h'
      | [z], h', hx =>
        subst hx
        obtain ⟨h0, h4⟩ := and2 h'
        obtain ⟨h0, h3⟩ := and2 h0
        obtain ⟨h0, h2⟩ := and2 h0
        obtain ⟨h0, h1⟩ := and2 h0
        cases ks with
        | cons _ _ => cases h1
        | nil => exact snd_ienum hy g (and2 h0).1 h2 h3 (sndE hy e z g h4) pos
  | .zip a b, sc, ow, X, Z, tx, x, g, h => by
    have h' : (match asCall x with
      | some (p, xs, ks) => match xs with
        | [z, z2] => (asTup tx).isSome && ks.isEmpty && gnameIs sc "zip" p && notStar z && notStar z2 && chkE L N a sc ow z && chkE L N b sc ow z2
        | _ => false
      | none => false) = true := h
    cases e1 : asCall x with
    | none => rw [e1] at h'; cases h'
    | some t =>
      obtain ⟨p, xs, ks⟩ := t
      rw [e1] at h'
      obtain ⟨pos, hx⟩ := asCall_eq e1
      match xs, h', hx with
      | [], h', _ => cases h'
      | [_], h', _ => cases h'
      | _ :: _ :: _ :: _, h', _ => cases h'
      | [z, z2], h', hx =>
        subst hx
        obtain ⟨h0, h6⟩ := and2 h'
        obtain ⟨h0, h5⟩ := and2 h0
        obtain ⟨h0, h4⟩ := and2 h0
        obtain ⟨h0, h3⟩ := and2 h0
        obtain ⟨h0, h2⟩ := and2 h0
        obtain ⟨h0, h1⟩ := and2 h0
        cases ks with
        | cons _ _ => cases h1
        | nil => exact snd_izip hy g (and2 h0).1 h2 h3 h4 (sndE hy a z g h5) (sndE hy b z2 g h6) pos
end
end
end Pyi
set_option Elab.async false
set_option linter.all false
set_option maxRecDepth 100000
set_option maxHeartbeats 2000000
/-! The interpreter is right: statements. -/
namespace Pyi
open PySem PySem.Spec PyProof.Rows L2

section
variable {W : Wd} {X : Cx} {Z : WX} {zz : Addr} {F0 F F' F1 : Addr → Prop} {μ0 μ μ' μ1 : List Addr} {H0 H H' H1 : Hp} {h h' : Hs} {env env' : Env} {σ σ' : L2.St}
theorem Mon.refl : Mon F μ H F μ H := ⟨fun _ h => h, fun _ _ h => h, fun _ _ => rfl⟩
theorem Mon.trans (a : Mon F μ H F' μ' H') (b : Mon F' μ' H' F1 μ1 H1) : Mon F μ H F1 μ1 H1 := ⟨fun x h => b.f x (a.f x h), fun n x h => b.mu n x (a.mu n x h), fun x h => (b.fz x (a.f x h)).trans (a.fz x h)⟩
/-- the state in a def's body; F0, μ0, H0: at its start -/
structure At (W : Wd) (zz : Addr) (F0 : Addr → Prop) (μ0 : List Addr) (H0 : Hp) (F : Addr → Prop) (μ : List Addr) (H : Hp) (h : Hs) (env : Env) (σ : L2.St) : Prop where
  st : RSt W F μ H h
  en : REnv W F μ H env σ
  stp : Stp F0 μ0 H0 F μ H
  own : ∀ a, Own env σ a → H0 a = none
  l0 : ∀ a, F0 a → H0 a ≠ none
  me : ∀ (i : Nat) c ns vs, env[i]? = some (some (.ownI c ns vs)) → σ[i]? = some (some (.ref zz))
theorem At.step (A : At W zz F0 μ0 H0 F μ H h env σ) (r : RSt W F' μ' H' h') (s : Stp F μ H F' μ' H') : At W zz F0 μ0 H0 F' μ' H' h' env σ := ⟨r, A.en.mono s, A.stp.trans s, A.own, A.l0, A.me⟩
/-- what is wanted behind a statement's run -/
def AftS (W : Wd) (Z : WX) (zz : Addr) (F0 : Addr → Prop) (μ0 : List Addr) (H0 : Hp) (F : Addr → Prop) (μ : List Addr) (H : Hp) (σ : L2.St) (o : OutS) (D : Ends) : Prop := match o with
  | .ok .nxt env' h' => ∀ F' μ' H' σ', At W zz F0 μ0 H0 F' μ' H' h' env' σ' → Mon F μ H F' μ' H' → D.nx σ' H'
  | .ok (.ret v) _ h' => ∀ F' μ' H' x, RSt W F' μ' H' h' → Stp F0 μ0 H0 F' μ' H' → RV W F' μ' H' v x → D.rt x H'
  | .exc c v h' => Exq W Z F0 μ0 H0 σ c v h'
  | .bad => False
def RS (W : Wd) (Z : WX) (m : Env → Hs → OutS) : TS := fun D σ H => ∃ zz F0 μ0 H0 F μ env h, At W zz F0 μ0 H0 F μ H h env σ ∧ AftS W Z zz F0 μ0 H0 F μ H σ (m env h) D
/-- the wish looks at no name of the frame -/
def Blind (Z : WX) : Prop := ∀ c d σ σ' H, Z c d σ H → Z c d σ' H
theorem Exq.sig (b : Blind Z) {c : Nat} {v : Val} (q : Exq W Z F μ H σ c v h') : Exq W Z F μ H σ' c v h' := fun F' μ' H' d x r s n f m e rv => b _ _ _ _ _ (q F' μ' H' d x r s n f m e rv)
theorem AftS.rebase {o : OutS} {D : Ends} (b : Blind Z) (m : Mon F μ H F1 μ1 H1) (q : AftS W Z zz F0 μ0 H0 F μ H σ o D) : AftS W Z zz F0 μ0 H0 F1 μ1 H1 σ' o D := by
  cases o with
  | ok f e h =>
    cases f with
    | nxt => exact fun F' μ' H' σ' A mm => q F' μ' H' σ' A (m.trans mm)
    | ret v => exact q
  | exc c v h => exact Exq.sig b q
  | bad => exact q
theorem rs_step {α β : Type} {R : Hp → (Addr → Prop) → List Addr → Hp → α → β → Prop} {m : Ev α} {f : α → Hs → OutS} {Q : β → Hp → Prop} {D : Ends} (b : Blind Z) (A : At W zz F0 μ0 H0 F μ H h env σ) (q : AftS W Z zz F0 μ0 H0 F μ H σ ((m env h).toS f) D)
    (k : ∀ v h' F' μ' H' x, At W zz F0 μ0 H0 F' μ' H' h' env σ → Stp F μ H F' μ' H' → R H F' μ' H' v x → AftS W Z zz F0 μ0 H0 F' μ' H' σ (f v h') D → Q x H') : RDg W Z R m σ H Q := by
  refine ⟨F, μ, env, h, A.st, A.en, ?_⟩
  cases hm : m env h with
  | ok v h1 =>
    rw [hm] at q
    intro F' μ' H' x r s rv
    have q' : AftS W Z zz F0 μ0 H0 F μ H σ (f v h1) D := q
    exact k v h1 F' μ' H' x (A.step r s) s rv (q'.rebase b s.mon)
  | exc c v h1 =>
    rw [hm] at q
    have q' : Exq W Z F0 μ0 H0 σ c v h1 := q
    exact Exq.trans q' A.stp
  | bad =>
    rw [hm] at q
    exact q.elim
theorem aftS_opt {α : Type} {o : Option α} {f : α → Hs → OutS} {D : Ends} (q : AftS W Z zz F0 μ0 H0 F μ H σ ((ofOpt o h).toS f) D) : ∃ a, o = some a ∧ AftS W Z zz F0 μ0 H0 F μ H σ (f a h) D := by
  cases o with
  | some a => exact ⟨a, rfl, q⟩
  | none => exact q.elim
theorem PS.imp {s : Stmt} {t t' : TS} (h : PS X s t) (i : ∀ D σ H, t' D σ H → t D σ H) : PS X s t' := ⟨fun pins s σ H D I q => h.run pins s σ H D I (i D σ H q)⟩
theorem PSs.imp {s : List Stmt} {t t' : TS} (h : PSs X s t) (i : ∀ D σ H, t' D σ H → t D σ H) : PSs X s t' := ⟨fun pins s σ H D I q => h.run pins s σ H D I (i D σ H q)⟩
/-! ### a list that the frame alone holds -/
theorem own_set2 {i : Nat} {s : Slot} {a b : Addr} {j : Nat} (o : OwnAt (env.set i (some s)) (σ.set i (some (.ref a))) j b) : (i = j ∧ b = a) ∨ (i ≠ j ∧ OwnAt env σ j b) := by
  obtain ⟨t, e1, e2, e3⟩ := o
  rcases getSet e1 with ⟨e, _⟩ | ⟨hn, z⟩
  · rcases getSet e3 with ⟨_, w⟩ | ⟨hn, _⟩
    · cases w
      exact .inl ⟨e, rfl⟩
    · exact absurd e hn
  · rcases getSet e3 with ⟨w, _⟩ | ⟨_, w⟩
    · exact absurd w hn
    · exact .inr ⟨hn, t, z, e2, w⟩
theorem REnv.setOwn (r : REnv W F μ H env σ) {i : Nat} {s : Slot} {a : Addr} (hs : RSlot W F μ H s (.ref a)) (hn : ∀ j, ¬ OwnAt env σ j a) : REnv W F μ H (env.set i (some s)) (σ.set i (some (.ref a))) where
  len := by rw [List.length_set, List.length_set]; exact r.len
  sl := fun j t e => by
    rcases getSet e with ⟨rfl, z⟩ | ⟨hn, z⟩
    · cases z
      have hl : i < σ.length := by
        have := (List.getElem?_eq_some_iff.mp e).1
        rw [List.length_set, r.len] at this
        exact this
      exact ⟨_, List.getElem?_set_self hl, hs⟩
    · obtain ⟨y, e1, q⟩ := r.sl j t z
      exact ⟨y, by rw [List.getElem?_set_ne hn]; exact e1, q⟩
  sep := fun j k b h1 h2 => by
    rcases own_set2 h1 with ⟨e1, e2⟩ | ⟨e1, q1⟩
    · rcases own_set2 h2 with ⟨e3, e4⟩ | ⟨e3, q3⟩
      · exact e1.symm.trans e3
      · rw [e2] at q3
        exact absurd q3 (hn k)
    · rcases own_set2 h2 with ⟨e3, e4⟩ | ⟨e3, q3⟩
      · rw [e4] at q1
        exact absurd q1 (hn j)
      · exact r.sep j k b q1 q3
/-- what the frame's own list becomes -/
theorem At.put (A : At W zz F0 μ0 H0 F μ H h env σ) {i : Nat} {s s' : Slot} {a : Addr} {o : HO} (he : env[i]? = some (some s)) (ho : isOwn s = true) (hx : σ[i]? = some (some (.ref a))) (hs : RSlot W F μ (upd H a o) s' (.ref a)) (nd : ∀ b, H a ≠ some (.own b)) (hI : ∀ c ns vs, s' = .ownI c ns vs → a = zz) :
    At W zz F0 μ0 H0 F μ (upd H a o) h (env.set i (some s')) σ ∧ Mon F μ H F μ (upd H a o) := by
  have own : OwnAt env σ i a := ⟨s, he, ho, hx⟩
  obtain ⟨lv, nf, nm⟩ := A.en.own_live ⟨i, own⟩
  have n0 := A.own a ⟨i, own⟩
  refine ⟨⟨A.st.out nf nm, ⟨by rw [List.length_set]; exact A.en.len, fun j t e => ?_, fun j k b h1 h2 => ?_⟩, ?_, fun b hb => ?_, A.l0, fun j c ns vs e => ?_⟩, Mon.out nf⟩
  · rcases getSet e with ⟨rfl, z⟩ | ⟨hn, z⟩
    · cases z
      exact ⟨_, hx, hs⟩
    · obtain ⟨y, e1, q⟩ := A.en.sl j t z
      refine ⟨y, e1, q.out nf (fun ht ey => hn (A.en.sep i j a own ⟨t, z, ht, ?_⟩)) nd⟩
      rw [e1, ey]
  · have w : ∀ j b, OwnAt (env.set i (some s')) σ j b → OwnAt env σ j b := fun j b ⟨t, e1, e2, e3⟩ => by
      rcases getSet e1 with ⟨rfl, _⟩ | ⟨_, z⟩
      · rw [hx] at e3
        cases e3
        exact own
      · exact ⟨t, z, e2, e3⟩
    exact A.en.sep j k b (w j b h1) (w k b h2)
  · have s := A.stp
    exact {
      f := s.f
      m := s.m
      fz := fun b fb => (upd_ne (show b ≠ a from fun z => A.l0 b fb (z ▸ n0))).trans (s.fz b fb)
      keep := fun b u e m => (upd_ne (ne_of_none e n0)).trans (s.keep b u e m)
      fn := s.fn
      mn := s.mn
      lv := fun b e => by
        by_cases z : b = a
        · rw [z, upd_same]; exact fun q => by cases q
        · rw [upd_ne z]; exact s.lv b e }
  · obtain ⟨j, t, e1, e2, e3⟩ := hb
    rcases getSet e1 with ⟨rfl, _⟩ | ⟨_, z⟩
    · rw [hx] at e3
      cases e3
      exact n0
    · exact A.own b ⟨j, t, z, e2, e3⟩
  · rcases getSet e with ⟨rfl, z⟩ | ⟨hn, z⟩
    · rw [hx, hI c ns vs (Option.some.inj z).symm]
    · exact A.me j c ns vs z
theorem At.setV (A : At W zz F0 μ0 H0 F μ H h env σ) {i : Nat} {v : Val} {x : V} (hv : RV W F μ H v x) : At W zz F0 μ0 H0 F μ H h (env.set i (some (.v v))) (σ.set i (some x)) := ⟨A.st, A.en.set hv, A.stp, fun a o => A.own a (A.en.own_set o), A.l0, fun j c ns vs e => by
  rcases getSet e with ⟨_, z⟩ | ⟨hn, z⟩
  · cases z
  · rw [List.getElem?_set_ne hn]
    exact A.me j c ns vs z⟩
mutual
theorem bindT_own : ∀ (t : Tg) (w : Val) (e e' : Env), bindT t w e = some e' → ∀ (i : Nat) s, e'[i]? = some (some s) → isOwn s = true → i ∉ t.slots ∧ e[i]? = some (some s)
  | .v j, w, e, e', h, i, s, hs, ho => by
    cases h
    rcases getSet hs with ⟨_, z⟩ | ⟨hn, z⟩
    · cases z
      cases ho
    · exact ⟨fun hm => hn (List.mem_singleton.mp hm).symm, z⟩
  | .t l, w, e, e', h, i, s, hs, ho => by
    cases w with
    | tup vs => exact bindTs_own l vs e e' h i s hs ho
    | _ => cases h
theorem bindTs_own : ∀ (l : List Tg) (ws : List Val) (e e' : Env), bindTs l ws e = some e' → ∀ (i : Nat) s, e'[i]? = some (some s) → isOwn s = true → i ∉ Tg.slotss l ∧ e[i]? = some (some s)
  | [], ws, e, e', h, i, s, hs, ho => by
    cases ws with
    | nil =>
      cases h
      exact ⟨(fun hm => nomatch hm), hs⟩
    | cons _ _ => cases h
  | t :: l, ws, e, e', h, i, s, hs, ho => by
    cases ws with
    | nil => cases h
    | cons w ws =>
      obtain ⟨e1, h1, h2⟩ := Option.bind_eq_some_iff.mp (show (bindT t w e).bind (fun e => bindTs l ws e) = some e' from h)
      obtain ⟨n2, q2⟩ := bindTs_own l ws e1 e' h2 i s hs ho
      obtain ⟨n1, q1⟩ := bindT_own t w e e1 h1 i s q2 ho
      exact ⟨fun hm => (List.mem_append.mp (show i ∈ t.slots ++ Tg.slotss l from hm)).elim n1 n2, q1⟩
end
/-! ### small statements -/
variable {D : Ends}
theorem s_set {m : Ev Val} {i : Nat} (b : Blind Z) (q : RS W Z (fun env h => (m env h).toS fun x h => .ok .nxt (setAt (.v x) env i) h) D σ H) : tAsg (RD W Z m) (gName i) D σ H := by
  obtain ⟨zz, F0, μ0, H0, F, μ, env, h, A, a⟩ := q
  show RD W Z m σ H fun x H1 => D.nx (σ.set i (some x)) H1
  exact rs_step b A a fun v h1 F1 μ1 H1 x A1 s1 v1 a1 => a1 F1 μ1 H1 _ (A1.setV v1) Mon.refl
theorem s_tset {m : Ev Val} {tg : Tg} (b : Blind Z) (q : RS W Z (fun env h => (m env h).toS fun x h => (ofOpt (bindT tg x env) h).toS fun env' h => .ok .nxt env' h) D σ H) : tAsg (RD W Z m) (gG W tg) D σ H := by
  obtain ⟨zz, F0, μ0, H0, F, μ, env, h, A, a⟩ := q
  show RD W Z m σ H fun x H1 => gG W tg x σ H1 D.nx
  refine rs_step b A a fun v h1 F1 μ1 H1 x A1 s1 v1 a1 => ?_
  obtain ⟨env', eb, a2⟩ := aftS_opt a1
  exact ⟨F1, μ1, env, h1, v, env', A1.st, A1.en, v1, eb, fun σ' e2 n2 _ o2 => a2 F1 μ1 H1 σ' ⟨A1.st, e2, A1.stp, fun a o => A1.own a (o2 a o), A1.l0, fun i c ns vs z => by
    obtain ⟨q1, q2⟩ := bindT_own tg v env env' eb i _ z rfl
    rw [n2 i q1]
    exact A1.me i c ns vs q2⟩ Mon.refl⟩
theorem s_own {m : Ev (List Val)} {i : Nat} (b : Blind Z) (q : RS W Z (fun env h => (m env h).toS fun vs h => .ok .nxt (setAt (.own vs) env i) h) D σ H) : tAsg (RDf W Z m) (gName i) D σ H := by
  obtain ⟨zz, F0, μ0, H0, F, μ, env, h, A, a⟩ := q
  show RDf W Z m σ H fun x H1 => D.nx (σ.set i (some x)) H1
  refine rs_step b A a fun v h1 F1 μ1 H1 x A1 s1 v1 a1 => ?_
  obtain ⟨p, xs, rfl, n, nf, nm, g, rv⟩ := v1
  refine a1 F1 μ1 H1 _ ⟨A1.st, A1.en.setOwn ⟨p, xs, rfl, g, rv, nf, nm⟩ fun j o => (A.en.own_live ⟨j, o⟩).1 n, A1.stp, fun c o => ?_, A1.l0, fun j c ns vs z => by
    rcases getSet z with ⟨_, w⟩ | ⟨hn, w⟩
    · cases w
    · rw [List.getElem?_set_ne hn]
      exact A1.me j c ns vs w⟩ Mon.refl
  obtain ⟨j, o⟩ := o
  rcases own_set2 o with ⟨_, e⟩ | ⟨_, o⟩
  · rw [e]
    exact none_back A.stp n
  · exact A1.own c ⟨j, o⟩
/-- a list of the frame's own is changed no more -/
theorem s_frz {i : Nat} {m : Env → Hs → OutS} (b : Blind Z) (q : RS W Z (fun env h => ((ofOpt (ownL env i) h).toS fun vs h => .ok .nxt (setAt (.v (.lst vs)) env i) h).bind m) D σ H) : RS W Z m D σ H := by
  obtain ⟨zz, F0, μ0, H0, F, μ, env, h, A, a⟩ := q
  dsimp only at a
  cases ho : ownL env i with
  | none =>
    rw [ho] at a
    exact a.elim
  | some vs =>
    rw [ho] at a
    have he := own_some ho
    obtain ⟨x, e1, p, xs, rfl, g, rv, nf, nm⟩ := A.en.sl i _ he
    have own : OwnAt env σ i p := ⟨_, he, rfl, e1⟩
    have n0 := A.own p ⟨i, own⟩
    refine ⟨zz, F0, μ0, H0, fun a => F a ∨ a = p, μ, setAt (.v (.lst vs)) env i, h, ⟨A.st.grow (by rw [g]; exact fun z => by cases z) nm, ⟨by unfold setAt; rw [List.length_set]; exact A.en.len, fun j t e => ?_, fun j k c h1 h2 => ?_⟩, A.stp.freeze n0, fun c oc => ?_, A.l0, fun j c ns vs z => by
      rcases getSet z with ⟨_, w⟩ | ⟨hn, w⟩
      · cases w
      · exact A.me j c ns vs w⟩, AftS.rebase b Mon.grow a⟩
    · rcases getSet e with ⟨rfl, z⟩ | ⟨hn, z⟩
      · cases z
        exact ⟨_, e1, p, xs, rfl, .inr rfl, g, RVs.grow vs xs rv⟩
      · obtain ⟨y, e2, q2⟩ := A.en.sl j t z
        refine ⟨y, e2, ?_⟩
        have nv : ∀ c, ¬ F c → isOwn t = true → y = .ref c → ¬ (F c ∨ c = p) := fun c nfc ht ey hc => by
          rcases hc with hc | hc
          · exact nfc hc
          · refine hn (A.en.sep i j p own ⟨t, z, ht, ?_⟩)
            rw [e2, ey, hc]
        cases t with
        | v v => exact RV.grow v y q2
        | own ws =>
          obtain ⟨c, ys, ey, g2, r2, nf2, nm2⟩ := q2
          exact ⟨c, ys, ey, g2, RVs.grow ws ys r2, nv c nf2 rfl ey, nm2⟩
        | ownD ks ws =>
          obtain ⟨c, kvs, ey, g2, nf2, nm2, k2, r2⟩ := q2
          exact ⟨c, kvs, ey, g2, nv c nf2 rfl ey, nm2, k2, RVs.grow ws _ r2⟩
        | ownI c ns ws =>
          obtain ⟨c, dx, fs, ey, g2, gd2, n2, r2, nf2, nm2, md2, fl2⟩ := q2
          exact ⟨c, dx, fs, ey, g2, gd2, n2, RVs.grow ws _ r2, nv c nf2 rfl ey, nm2, md2, fl2⟩
    · have w : ∀ j b, OwnAt (setAt (.v (.lst vs)) env i) σ j b → OwnAt env σ j b := fun j b ⟨t, e1, e2, e3⟩ => by
        rcases getSet e1 with ⟨rfl, z⟩ | ⟨_, z⟩
        · cases z
          cases e2
        · exact ⟨t, z, e2, e3⟩
      exact A.en.sep j k c (w j c h1) (w k c h2)
    · obtain ⟨j, t, e1, e2, e3⟩ := oc
      rcases getSet e1 with ⟨rfl, z⟩ | ⟨_, z⟩
      · cases z
        cases e2
      · exact A.own c ⟨j, t, z, e2, e3⟩
theorem s_app {m : Ev Val} {i : Nat} (K : PySem.W.Frag) (b : Blind Z) (q : RS W Z (fun env h => (ofOpt (ownL env i) h).toS fun vs h => (m env h).toS fun x h => if decide (vs.length ≤ most) then .ok .nxt (setAt (.own (vs ++ [x])) env i) h else .bad) D σ H) :
    tDrop (tBM K "list" rAppend (tVar i) (tCons (RD W Z m) tNil)) D σ H := by
  obtain ⟨zz, F0, μ0, H0, F, μ, env, h, A, a⟩ := q
  obtain ⟨vs, ho, a⟩ := aftS_opt a
  have he := own_some ho
  obtain ⟨x, e1, p, xs, rfl, g, rv, nf, nm⟩ := A.en.sl i _ he
  refine ⟨.ref p, e1, .inl ⟨rfl, xs, SqL.of g⟩, ?_⟩
  show RD W Z m σ H fun y H1 => rAppend (.ref p) [y] H1 fun _ H2 => D.nx σ H2
  refine rs_step b A a fun v h1 F1 μ1 H1 y A1 s1 v1 a1 => ?_
  by_cases hl : decide (vs.length ≤ most) = true
  · rw [if_pos hl] at a1
    obtain ⟨x', e1', p', xs', ex, g1, rv1, nf1, nm1⟩ := A1.en.sl i _ he
    rw [e1] at e1'
    cases e1'
    cases ex
    refine ⟨p, xs', y, rfl, rfl, g1, ?_, ?_⟩
    · rw [← RVs.length rv1]
      exact Nat.lt_of_le_of_lt (of_decide_eq_true hl) (by rw [sizeLine_eq]; decide)
    · obtain ⟨A2, M2⟩ := A1.put (s' := .own (vs ++ [v])) (o := .lst (xs' ++ [y])) he rfl e1 ⟨p, xs' ++ [y], rfl, upd_same, RVs.out nf1 _ _ (RVs.append rv1 ⟨y, [], rfl, v1, rfl⟩), nf1, nm1⟩ (fun b z => by rw [g1] at z; cases z) (fun c ns vs z => by cases z)
      exact a1 F1 μ1 _ σ A2 M2
  · rw [if_neg hl] at a1
    exact a1.elim
theorem s_oset {mi mv : Ev Val} {x : Nat} (b : Blind Z) (q : RS W Z (fun env h => (ofOpt (ownL env x) h).toS fun vs h => (mv env h).toS fun v h => (mi env h).toS fun k h => (ofOpt ((asI k).bind fun k => Pyi.ixN vs.length k) h).toS fun j h =>
      .ok .nxt (setAt (.own (vs.set j v)) env x) h) D σ H) : tAsg (RD W Z mv) (gSub (tVar x) (RD W Z mi) rSetL) D σ H := by
  obtain ⟨zz, F0, μ0, H0, F, μ, env, h, A, a⟩ := q
  obtain ⟨vs, ho, a⟩ := aftS_opt a
  have he := own_some ho
  show RD W Z mv σ H fun y H1 => ∃ o, σ[x]? = some (some o) ∧ RD W Z mi σ H1 fun i H2 => rSetL o i y H2 fun H3 => D.nx σ H3
  refine rs_step b A a fun v h1 F1 μ1 H1 y A1 s1 v1 a1 => ?_
  obtain ⟨z, e1, p, xs, rfl, g, rv, nf, nm⟩ := A1.en.sl x _ he
  refine ⟨_, e1, ?_⟩
  refine rs_step b A1 a1 fun w h2 F2 μ2 H2 i A2 s2 v2 a2 => ?_
  obtain ⟨j, ej, a3⟩ := aftS_opt a2
  obtain ⟨z, e1', p', xs', ex, g1, rv1, nf1, nm1⟩ := A2.en.sl x _ he
  rw [e1] at e1'
  cases e1'
  cases ex
  cases w with
  | int k =>
    have ej' : L2.ixN xs'.length k = some j := by rw [← RVs.length rv1]; exact ej
    refine ⟨p, xs', k, j, rfl, v2, g1, ej', ?_⟩
    obtain ⟨A3, M3⟩ := A2.put (s' := .own (vs.set j v)) (o := .lst (xs'.set j y)) he rfl e1 ⟨p, xs'.set j y, rfl, upd_same, RVs.out nf1 _ _ (RVs.set j rv1 (RV.mono s2 v y v1)), nf1, nm1⟩ (fun b z => by rw [g1] at z; cases z) (fun c ns vs z => by cases z)
    exact a3 F2 μ2 _ σ A3 M3
  | _ => cases ej
/-- a list that changes is written -/
theorem RSt.put {n : Nat} {a : Addr} {vs : List Val} {xs : List V} (r : RSt W F μ H h) (e : μ[n]? = some a) (q : RVs W F μ H vs xs) : RSt W F μ (upd H a (.lst xs)) (h.set n (.lst vs)) := by
  have nf := r.nf a (List.mem_of_getElem? e)
  refine ⟨by rw [List.length_set]; exact r.len, r.nd, fun k o c h1 h2 => ?_, r.nf, fun c hc => ?_, fun c hc => ?_⟩
  · rcases getSet h1 with ⟨rfl, z⟩ | ⟨hn, z⟩
    · cases z
      rw [e] at h2
      cases h2
      exact ⟨xs, upd_same, RVs.out nf vs xs q⟩
    · have ne : c ≠ a := fun z => by
        have l1 := (List.getElem?_eq_some_iff.mp e).1
        have l2 := (List.getElem?_eq_some_iff.mp h2).1
        have e1 := (List.getElem?_eq_some_iff.mp e).2
        have e2 := (List.getElem?_eq_some_iff.mp h2).2
        exact hn ((List.getElem_inj r.nd).mp (by rw [e1, e2, z]))
      have q0 := r.ob k o c z h2
      cases o with
      | lst ws =>
        obtain ⟨ys, g, q1⟩ := q0
        exact ⟨ys, (upd_ne ne).trans g, RVs.out nf ws ys q1⟩
      | ins cc ns ws =>
        obtain ⟨dx, fs, g, n1, q1⟩ := q0
        exact ⟨dx, fs, (upd_ne ne).trans g, n1, RVs.out nf ws _ q1⟩
  · by_cases z : c = a
    · rw [z, upd_same]; exact fun q => by cases q
    · rw [upd_ne z]; exact r.lm c hc
  · rw [upd_ne (show c ≠ a from fun z => nf (z ▸ hc))]
    exact r.lf c hc
theorem s_setI {mo mi mv : Ev Val} (b : Blind Z) (q : RS W Z (fun env h => (mv env h).toS fun v h => (mo env h).toS fun o h => (mi env h).toS fun k h => (ofOpt (setH h o k v) h).toS fun h' _ => .ok .nxt env h') D σ H) :
    tAsg (RD W Z mv) (gSub (RD W Z mo) (RD W Z mi) rSetL) D σ H := by
  obtain ⟨zz, F0, μ0, H0, F, μ, env, h, A, a⟩ := q
  show RD W Z mv σ H fun y H1 => RD W Z mo σ H1 fun o H2 => RD W Z mi σ H2 fun i H3 => rSetL o i y H3 fun H4 => D.nx σ H4
  refine rs_step b A a fun v h1 F1 μ1 H1 y A1 s1 v1 a1 => ?_
  refine rs_step b A1 a1 fun o h2 F2 μ2 H2 y2 A2 s2 v2 a2 => ?_
  refine rs_step b A2 a2 fun w h3 F3 μ3 H3 y3 A3 s3 v3 a3 => ?_
  obtain ⟨h', eh, a4⟩ := aftS_opt a3
  cases o with
  | ref n =>
    cases w with
    | int k =>
      obtain ⟨p, em, rfl⟩ := v2
      have em := s3.mu em
      have eh' : (match h3[n]? with
        | some (.lst vs) => (Pyi.ixN vs.length k).map fun j => h3.set n (.lst (vs.set j v))
        | _ => none) = some h' := eh
      cases hn : h3[n]? with
      | none => rw [hn] at eh'; cases eh'
      | some ob =>
        rw [hn] at eh'
        cases ob with
        | ins _ _ _ => cases eh'
        | lst vs =>
          obtain ⟨j, ej, e2⟩ := Option.map_eq_some_iff.mp eh'
          subst e2
          obtain ⟨xs, g, rv⟩ := A3.st.ob n _ p hn em
          have ej' : L2.ixN xs.length k = some j := by rw [← RVs.length rv]; exact ej
          refine ⟨p, xs, k, j, rfl, v3, g, ej', ?_⟩
          have nf := A3.st.nf p (List.mem_of_getElem? em)
          have no : ¬ Own env σ p := fun ow => (A3.en.own_live ow).2.2 (List.mem_of_getElem? em)
          refine a4 F3 μ3 _ σ ⟨A3.st.put em (RVs.set j rv (RV.mono (s2.trans s3) v y v1)), A3.en.out nf no (fun b z => by rw [g] at z; cases z), ?_, A3.own, A3.l0, A3.me⟩ (Mon.out nf)
          have s := A3.stp
          exact {
            f := s.f
            m := s.m
            fz := fun c fc => (upd_ne (show c ≠ p from fun z => nf (z ▸ s.f c fc))).trans (s.fz c fc)
            keep := fun c u e m => by
              by_cases z : c = p
              · rw [z] at e m
                rcases s.mn p (List.mem_of_getElem? em) with t | t
                · exact absurd t m
                · rw [e] at t; cases t
              · exact (upd_ne z).trans (s.keep c u e m)
            fn := s.fn
            mn := s.mn
            lv := fun c e => by
              by_cases z : c = p
              · rw [z, upd_same]; exact fun q => by cases q
              · rw [upd_ne z]; exact s.lv c e }
    | _ => cases eh
  | _ => cases eh
theorem s_par2 {m : Ev (List Val)} {i j : Nat} (b : Blind Z) (hl : ∀ env h vs h', m env h = .ok vs h' → vs.length = 2) (q : RS W Z (fun env h => (m env h).toS fun vs h => .ok .nxt (setSlots env [i, j] vs) h) D σ H) : tPar i j (RDs W Z m) D σ H := by
  obtain ⟨zz, F0, μ0, H0, F, μ, env, h, A, a⟩ := q
  show RDs W Z m σ H fun vs H1 => ∃ v w, vs = [v, w] ∧ D.nx ((σ.set i (some v)).set j (some w)) H1
  cases hm : m env h with
  | ok vs h1 =>
    have l := hl _ _ _ _ hm
    refine ⟨F, μ, env, h, A.st, A.en, ?_⟩
    dsimp only at a
    rw [hm] at a ⊢
    intro F1 μ1 H1 xs r1 s1 v1
    match vs, l, v1 with
    | [x, y], _, v1 =>
      obtain ⟨x', y', rfl, q1, q2⟩ := vs2 v1
      refine ⟨x', y', rfl, ?_⟩
      have a' : ∀ F' μ' H' σ', At W zz F0 μ0 H0 F' μ' H' h1 (setSlots env [i, j] [x, y]) σ' → Mon F μ H F' μ' H' → D.nx σ' H' := a
      exact a' F1 μ1 H1 _ (((A.step r1 s1).setV q1).setV q2) s1.mon
  | exc c v h1 =>
    refine ⟨F, μ, env, h, A.st, A.en, ?_⟩
    dsimp only at a
    rw [hm] at a ⊢
    have a' : Exq W Z F0 μ0 H0 σ c v h1 := a
    exact Exq.trans a' A.stp
  | bad =>
    dsimp only at a
    rw [hm] at a
    exact a.elim
theorem s_par3 {m : Ev (List Val)} {i j k : Nat} (b : Blind Z) (hl : ∀ env h vs h', m env h = .ok vs h' → vs.length = 3) (q : RS W Z (fun env h => (m env h).toS fun vs h => .ok .nxt (setSlots env [i, j, k] vs) h) D σ H) : tPar3 i j k (RDs W Z m) D σ H := by
  obtain ⟨zz, F0, μ0, H0, F, μ, env, h, A, a⟩ := q
  show RDs W Z m σ H fun vs H1 => ∃ u v w, vs = [u, v, w] ∧ D.nx (((σ.set i (some u)).set j (some v)).set k (some w)) H1
  cases hm : m env h with
  | ok vs h1 =>
    have l := hl _ _ _ _ hm
    refine ⟨F, μ, env, h, A.st, A.en, ?_⟩
    dsimp only at a
    rw [hm] at a ⊢
    intro F1 μ1 H1 xs r1 s1 v1
    match vs, l, v1 with
    | [x, y, z], _, v1 =>
      obtain ⟨x', r, rfl, q1, v2⟩ := v1
      obtain ⟨y', z', rfl, q2, q3⟩ := vs2 v2
      refine ⟨x', y', z', rfl, ?_⟩
      have a' : ∀ F' μ' H' σ', At W zz F0 μ0 H0 F' μ' H' h1 (setSlots env [i, j, k] [x, y, z]) σ' → Mon F μ H F' μ' H' → D.nx σ' H' := a
      exact a' F1 μ1 H1 _ ((((A.step r1 s1).setV q1).setV q2).setV q3) s1.mon
  | exc c v h1 =>
    refine ⟨F, μ, env, h, A.st, A.en, ?_⟩
    dsimp only at a
    rw [hm] at a ⊢
    have a' : Exq W Z F0 μ0 H0 σ c v h1 := a
    exact Exq.trans a' A.stp
  | bad =>
    dsimp only at a
    rw [hm] at a
    exact a.elim
theorem s_aug {m : Ev Val} {i : Nat} {o : BOp} {op : Int → Int → Int} (b : Blind Z) (ho : ∀ x y z, augop o x y = some z → ∃ i j, x = .int i ∧ y = .int j ∧ z = .int (op i j))
    (q : RS W Z (fun env h => (ofOpt (varV env i) h).toS fun x h => (m env h).toS fun y h => (ofOpt (augop o x y) h).toS fun z h => .ok .nxt (setAt (.v z) env i) h) D σ H) : tAug i (RD W Z m) (ipI op) D σ H := by
  obtain ⟨zz, F0, μ0, H0, F, μ, env, h, A, a⟩ := q
  obtain ⟨x, hx, a⟩ := aftS_opt a
  obtain ⟨z, e1, q1⟩ := A.en.sl i _ (var_some hx)
  refine ⟨z, e1, ?_⟩
  refine rs_step b A a fun v h1 F1 μ1 H1 y A1 s1 v1 a1 => ?_
  obtain ⟨u, eu, a2⟩ := aftS_opt a1
  obtain ⟨k, l, rfl, rfl, rfl⟩ := ho _ _ _ eu
  exact ⟨k, l, q1, v1, a2 F1 μ1 H1 _ (A1.setV rfl) Mon.refl⟩
theorem s_ret {m : Ev Val} (b : Blind Z) (q : RS W Z (fun env h => (m env h).toS fun x h => .ok (.ret x) env h) D σ H) : tRet (RD W Z m) D σ H := by
  obtain ⟨zz, F0, μ0, H0, F, μ, env, h, A, a⟩ := q
  show RD W Z m σ H D.rt
  exact rs_step b A a fun v h1 F1 μ1 H1 x A1 s1 v1 a1 => a1 F1 μ1 H1 x A1.st A1.stp v1
theorem s_retN (q : RS W Z (fun env h => .ok (.ret .non) env h) D σ H) : tRetN D σ H := by
  obtain ⟨zz, F0, μ0, H0, F, μ, env, h, A, a⟩ := q
  exact a F μ H _ A.st A.stp rfl
theorem s_ex {m : Ev Val} (b : Blind Z) (q : RS W Z (fun env h => (m env h).toS fun _ h => .ok .nxt env h) D σ H) : tDrop (RD W Z m) D σ H := by
  obtain ⟨zz, F0, μ0, H0, F, μ, env, h, A, a⟩ := q
  show RD W Z m σ H fun _ H1 => D.nx σ H1
  exact rs_step b A a fun v h1 F1 μ1 H1 x A1 s1 v1 a1 => a1 F1 μ1 H1 σ A1 Mon.refl
theorem s_pass (q : RS W Z (fun env h => .ok .nxt env h) D σ H) : tNext D σ H := by
  obtain ⟨zz, F0, μ0, H0, F, μ, env, h, A, a⟩ := q
  exact a F μ H σ A Mon.refl
theorem s_seq {m1 m2 : Env → Hs → OutS} (q : RS W Z (fun env h => (m1 env h).bind m2) D σ H) (b : Blind Z) : tSeq (RS W Z m1) (RS W Z m2) D σ H := by
  obtain ⟨zz, F0, μ0, H0, F, μ, env, h, A, a⟩ := q
  refine ⟨zz, F0, μ0, H0, F, μ, env, h, A, ?_⟩
  dsimp only at a
  cases hm : m1 env h with
  | ok f e1 h1 =>
    rw [hm] at a
    cases f with
    | nxt =>
      intro F' μ' H' σ' A' mm
      have a' : AftS W Z zz F0 μ0 H0 F μ H σ (m2 e1 h1) D := a
      exact ⟨zz, F0, μ0, H0, F', μ', e1, h1, A', a'.rebase b mm⟩
    | ret v => exact a
  | exc c v h1 =>
    rw [hm] at a
    exact a
  | bad =>
    rw [hm] at a
    exact a
theorem s_if {mc : Ev Val} {ma mb : Env → Hs → OutS} (b : Blind Z) (q : RS W Z (fun env h => (mc env h).toS fun x h => (ofOpt (asB x) h).toS fun t h => if t then ma env h else mb env h) D σ H) : tIfS (RDb W Z mc) (RS W Z ma) (RS W Z mb) D σ H := by
  obtain ⟨zz, F0, μ0, H0, F, μ, env, h, A, a⟩ := q
  show RDb W Z mc σ H fun c H1 => if c = true then RS W Z ma D σ H1 else RS W Z mb D σ H1
  have a' : AftS W Z zz F0 μ0 H0 F μ H σ (((mc env h).bind fun x h => ofOpt (asB x) h).toS fun t h => if t then ma env h else mb env h) D := by
    cases hm : mc env h with
    | ok v h1 =>
      dsimp only at a
      rw [hm] at a
      exact a
    | _ =>
      dsimp only at a
      rw [hm] at a
      exact a
  have st := rs_step (R := fun _ _ _ _ (b c : Bool) => b = c) (m := fun env h => (mc env h).bind fun x h => ofOpt (asB x) h) (Q := fun c H1 => if c = true then RS W Z ma D σ H1 else RS W Z mb D σ H1) b A a' fun t h1 F1 μ1 H1 c A1 s1 hc a1 => by
    subst hc
    cases t with
    | true => exact ⟨zz, F0, μ0, H0, F1, μ1, env, h1, A1, a1⟩
    | false => exact ⟨zz, F0, μ0, H0, F1, μ1, env, h1, A1, a1⟩
  exact st
theorem s_for {mi : Ev (List Val)} {tg : Tg} {mb : Env → Hs → OutS} (b : Blind Z) (q : RS W Z (fun env h => (mi env h).toS fun xs h => loopF (fun x env h => (ofOpt (bindT tg x env) h).toS fun env' h => mb env' h) xs env h) D σ H) :
    tFor (RDi W Z mi) (gG W tg) (RS W Z mb) D σ H := by
  obtain ⟨zz, F0, μ0, H0, F, μ, env, h, A, a⟩ := q
  show RDi W Z mi σ H _
  refine rs_step b A a fun xs h1 F1 μ1 H1 J A1 s1 wk a1 => ?_
  generalize hG : (fun (x : Val) (env : Env) (h : Hs) => (ofOpt (bindT tg x env) h).toS fun env' h => mb env' h) = G at a1
  let Wv : Nat → Nat → L2.St → Hp → Prop := fun i m σ' H' => m = xs.length - i ∧ i ≤ xs.length ∧ ∃ F' μ' env' h', At W zz F0 μ0 H0 F' μ' H' h' env' σ' ∧ Mon F1 μ1 H1 F' μ' H' ∧ AftS W Z zz F0 μ0 H0 F' μ' H' σ' (loopF G (xs.drop i) env' h') D
  refine ⟨Wv, ⟨xs.length, by simp, Nat.zero_le _, F1, μ1, env, h1, A1, Mon.refl, a1⟩, fun i m σc Hc w => ?_⟩
  obtain ⟨em, le, Fc, μc, ec, hc, Ac, Mc, ac⟩ := w
  have w1 := wk Fc μc Hc hc Ac.st Mc
  by_cases hie : i = xs.length
  · subst hie
    refine .inl ⟨w1.2, ?_⟩
    rw [List.drop_length] at ac
    exact ac Fc μc Hc σc Ac Mon.refl
  · have hlt : i < xs.length := by omega
    have hv : xs[i]? = some xs[i] := List.getElem?_eq_getElem hlt
    rw [drop_cons hv] at ac
    obtain ⟨go, yl⟩ := w1.1 i xs[i] hv
    refine .inr ⟨go, Wv (i + 1) (xs.length - (i + 1)), fun σ' H' n => ⟨xs.length - (i + 1), by omega, n⟩, fun y H' hy => ?_⟩
    obtain ⟨F2, r2, s2, v2⟩ := yl y H' hy
    have A2 := Ac.step r2 s2
    have ac1 : AftS W Z zz F0 μ0 H0 Fc μc Hc σc ((G xs[i] ec hc).bind fun env h => loopF G (xs.drop (i + 1)) env h) D := ac
    rw [← hG] at ac1
    dsimp only at ac1
    cases eb : bindT tg xs[i] ec with
    | none =>
      rw [eb] at ac1
      exact ac1.elim
    | some e2 =>
      rw [eb] at ac1
      refine ⟨F2, μc, ec, hc, xs[i], e2, r2, A2.en, v2, eb, fun σ2 re2 n2 l2 o2 => ?_⟩
      have A3 : At W zz F0 μ0 H0 F2 μc H' hc e2 σ2 := ⟨r2, re2, A2.stp, fun a o => A2.own a (o2 a o), A2.l0, fun i c ns vs z => by
        obtain ⟨q1, q2⟩ := bindT_own tg _ ec e2 eb i _ z rfl
        rw [n2 i q1]
        exact A2.me i c ns vs q2⟩
      refine ⟨zz, F0, μ0, H0, F2, μc, e2, hc, A3, ?_⟩
      have ac2 : AftS W Z zz F0 μ0 H0 Fc μc Hc σc ((mb e2 hc).bind fun env h => loopF (fun (x : Val) (env : Env) (h : Hs) => (ofOpt (bindT tg x env) h).toS fun env' h => mb env' h) (xs.drop (i + 1)) env h) D := ac1
      rw [hG] at ac2
      cases hm : mb e2 hc with
      | ok f e4 h4 =>
        rw [hm] at ac2
        cases f with
        | nxt =>
          intro F5 μ5 H5 σ5 A5 M5
          have ac3 : AftS W Z zz F0 μ0 H0 Fc μc Hc σc (loopF G (xs.drop (i + 1)) e4 h4) D := ac2
          have mm := s2.mon.trans M5
          exact ⟨rfl, hlt, F5, μ5, e4, h4, A5, Mc.trans mm, ac3.rebase b mm⟩
        | ret v => exact ac2
      | exc c v h4 =>
        rw [hm] at ac2
        have ac3 : Exq W Z F0 μ0 H0 σc c v h4 := ac2
        exact Exq.sig b ac3
      | bad =>
        rw [hm] at ac2
        exact ac2.elim
theorem s_while {mc : Ev Val} {mb : Env → Hs → OutS} {n : Nat} (b : Blind Z) (q : RS W Z (fun env h => loopW (fun env h => (mc env h).bind fun x h => ofOpt (asB x) h) mb n env h) D σ H) : tWhile (RDb W Z mc) (RS W Z mb) D σ H := by
  obtain ⟨zz, F0, μ0, H0, F, μ, env, h, A, a⟩ := q
  generalize hC : (fun (env : Env) (h : Hs) => (mc env h).bind fun x h => ofOpt (asB x) h) = C at a
  let Wv : Nat → L2.St → Hp → Prop := fun m σ' H' => ∃ F' μ' env' h', At W zz F0 μ0 H0 F' μ' H' h' env' σ' ∧ AftS W Z zz F0 μ0 H0 F' μ' H' σ' (loopW C mb m env' h') D
  refine ⟨Wv, ⟨n, F, μ, env, h, A, a⟩, fun m σc Hc w => ?_⟩
  obtain ⟨Fc, μc, ec, hc, Ac, ac⟩ := w
  cases m with
  | zero => exact ac.elim
  | succ m =>
    have ac1 : AftS W Z zz F0 μ0 H0 Fc μc Hc σc ((C ec hc).toS fun t h => if t then (mb ec h).bind fun env h => loopW C mb m env h else .ok .nxt ec h) D := ac
    rw [← hC] at ac1
    have st := rs_step (R := fun _ _ _ _ (b c : Bool) => b = c) (m := fun env h => (mc env h).bind fun x h => ofOpt (asB x) h)
      (Q := fun c H1 => if c = true then ∃ N : L2.St → Hp → Prop, (∀ σ' H', N σ' H' → ∃ m', m' < m + 1 ∧ Wv m' σ' H') ∧ RS W Z mb { D with nx := N, ct := N, bk := D.nx } σc H1 else D.nx σc H1) b Ac ac1 fun t h1 F1 μ1 H1 c A1 s1 hc a1 => by
      subst hc
      cases t with
      | true =>
        rw [if_pos rfl] at a1 ⊢
        refine ⟨Wv m, fun σ' H' w => ⟨m, Nat.lt_succ_self _, w⟩, zz, F0, μ0, H0, F1, μ1, ec, h1, A1, ?_⟩
        rw [hC] at a1
        cases hm : mb ec h1 with
        | ok f e4 h4 =>
          rw [hm] at a1
          cases f with
          | nxt =>
            intro F5 μ5 H5 σ5 A5 M5
            have a2 : AftS W Z zz F0 μ0 H0 F1 μ1 H1 σc (loopW C mb m e4 h4) D := a1
            exact ⟨F5, μ5, e4, h4, A5, a2.rebase b M5⟩
          | ret v => exact a1
        | exc c v h4 =>
          rw [hm] at a1
          exact a1
        | bad =>
          rw [hm] at a1
          exact a1.elim
      | false =>
        rw [if_neg Bool.false_ne_true] at a1 ⊢
        exact a1 F1 μ1 H1 σc A1 Mon.refl
    exact st
/-! ### dicts -/
theorem s_ownD {i : Nat} (b : Blind Z) (q : RS W Z (fun env h => .ok .nxt (setAt (.ownD [] []) env i) h) D σ H) : tAsg tDNewT (gName i) D σ H := by
  obtain ⟨zz, F0, μ0, H0, F, μ, env, h, A, a⟩ := q
  intro p np
  have r := A.st.fresh (o := .dT []) np
  have s := Stp.fresh (F := F) (μ := μ) (o := .dT []) np (A.st.notF np)
  have A1 := A.step r s
  have a' : ∀ F' μ' H' σ', At W zz F0 μ0 H0 F' μ' H' h (setAt (.ownD [] []) env i) σ' → Mon F μ H F' μ' H' → D.nx σ' H' := a
  refine a' F μ _ _ ⟨A1.st, A1.en.setOwn ⟨p, [], rfl, upd_same, A.st.notF np, A.st.notM np, rfl, rfl⟩ fun j o => (A.en.own_live ⟨j, o⟩).1 np, A1.stp, fun c o => ?_, A1.l0, fun j c ns vs z => by
    rcases getSet z with ⟨_, w⟩ | ⟨hn, w⟩
    · cases w
    · rw [List.getElem?_set_ne hn]
      exact A1.me j c ns vs w⟩ s.mon
  obtain ⟨j, o⟩ := o
  rcases own_set2 o with ⟨_, e⟩ | ⟨_, o⟩
  · rw [e]
    exact none_back A.stp np
  · exact A.own c ⟨j, o⟩
theorem s_dset {mk mv : Ev Val} {x : Nat} (b : Blind Z) (q : RS W Z (fun env h => (ofOpt (ownDL env x) h).toS fun d h => (mv env h).toS fun v h => (mk env h).toS fun k h =>
      if keyT k && decide (d.1.length ≤ most) then .ok .nxt (setAt (.ownD (dput d.1 d.2 k v).1 (dput d.1 d.2 k v).2) env x) h else .bad) D σ H) : sDPut (tVar x) (RD W Z mk) (RD W Z mv) D σ H := by
  obtain ⟨zz, F0, μ0, H0, F, μ, env, h, A, a⟩ := q
  obtain ⟨d, ho, a⟩ := aftS_opt a
  have he := ownD_some0 ho
  show RD W Z mv σ H fun v H1 => ∃ o, σ[x]? = some (some o) ∧ RD W Z mk σ H1 fun y H3 => ∃ a H4, o = .ref a ∧ DPut H3 a y v H4 ∧ D.nx σ H4
  refine rs_step b A a fun v h1 F1 μ1 H1 y A1 s1 v1 a1 => ?_
  obtain ⟨z, e1, p, kvs, rfl, g, nf, nm, ek, rv⟩ := A1.en.sl x _ he
  refine ⟨_, e1, ?_⟩
  refine rs_step b A1 a1 fun w h2 F2 μ2 H2 i A2 s2 v2 a2 => ?_
  by_cases hc : (keyT w && decide (d.1.length ≤ most)) = true
  · rw [if_pos hc] at a2
    obtain ⟨c1, c2⟩ := and2 hc
    have c2 := of_decide_eq_true c2
    obtain ⟨z, e1', p', kvs', ex, g1, nf1, nm1, ek1, rv1⟩ := A2.en.sl x _ he
    rw [e1] at e1'
    cases e1'
    cases ex
    obtain ⟨c, ks, ew, rfl, fc, gc⟩ := key_of_T c1 v2
    have hl : kvs'.length < sizeLine := by
      have : d.1.length = kvs'.length := by rw [ek1, List.length_map]
      rw [← this]
      exact Nat.lt_of_le_of_lt c2 (by rw [sizeLine_eq]; decide)
    refine ⟨p, _, rfl, DPut.t g1 gc hl, ?_⟩
    obtain ⟨A3, M3⟩ := A2.put (s' := .ownD (dput d.1 d.2 w v).1 (dput d.1 d.2 w v).2) (o := .dT (putK kvs' ks y)) he rfl e1 ⟨p, putK kvs' ks y, rfl, upd_same, nf1, nm1, by rw [ek1, ew]; exact putK_dput, by
      rw [ek1, ew]
      exact RVs.out nf1 _ _ (putK_vals rv1 (RV.mono s2 v y v1))⟩ (fun b z => by rw [g1] at z; cases z) (fun c ns vs z => by cases z)
    exact a2 F2 μ2 _ σ A3 M3
  · rw [if_neg hc] at a2
    exact a2.elim
theorem bind_slots : ∀ (is : List Nat) (ns : List Int) (env : Env), is.length = ns.length → bindTs (is.map Tg.v) (ns.map Val.int) env = some (setSlots env is (ns.map Val.int))
  | [], [], _, _ => rfl
  | [], _ :: _, _, h => by cases h
  | _ :: _, [], _, h => by cases h
  | i :: is, n :: ns, env, h => bind_slots is ns (env.set i (some (.v (.int n)))) (Nat.succ.inj h)
theorem s_unK {K : PySem.W.Frag} {is : List Nat} {ns : List Int} {a : Addr} (b : Blind Z) (hl : is.length = ns.length) (hk : ∀ H, SqT K H a (ns.map V.int)) (q : RS W Z (fun env h => .ok .nxt (setSlots env is (ns.map .int)) h) D σ H) :
    tAsg (tC (.ref a)) (fun x σ H Q => ∃ b xs, x = .ref b ∧ SqT K H b xs ∧ xs.length = is.length ∧ gGs W (is.map Tg.v) xs σ H Q) D σ H := by
  obtain ⟨zz, F0, μ0, H0, F, μ, env, h, A, aa⟩ := q
  refine ⟨a, _, rfl, hk H, by rw [List.length_map, hl], F, μ, env, h, ns.map .int, _, A.st, A.en, RVs.ints, bind_slots is ns env hl, fun σ' e2 n2 _ o2 => ?_⟩
  have a' : ∀ F' μ' H' σ', At W zz F0 μ0 H0 F' μ' H' h (setSlots env is (ns.map .int)) σ' → Mon F μ H F' μ' H' → D.nx σ' H' := aa
  exact a' F μ H σ' ⟨A.st, e2, A.stp, fun c o => A.own c (o2 c o), A.l0, fun i c ns' vs z => by
    obtain ⟨q1, q2⟩ := bindTs_own _ _ env _ (bind_slots is ns env hl) i _ z rfl
    rw [n2 i q1]
    exact A.me i c ns' vs q2⟩ Mon.refl
/-! ### the instance in its making -/
theorem ownI_some {env : Env} {i : Nat} {t : Nat × List Str × List Val} (h : ownIL env i = some t) : env[i]? = some (some (.ownI t.1 t.2.1 t.2.2)) := by
  unfold ownIL at h
  cases e : env[i]? with
  | none => rw [e] at h; cases h
  | some o =>
    rw [e] at h
    cases o with
    | none => cases h
    | some s => cases s <;> cases h; rfl
theorem putF_new {x : Str} {y : L2.V} : ∀ {fs : List (Str × L2.V)}, x ∉ fs.map (·.1) → putF x y fs = fs ++ [(x, y)]
  | [], _ => rfl
  | (n, z) :: fs, h => by
    show (if n = x then (n, y) :: fs else (n, z) :: putF x y fs) = _
    rw [if_neg (fun e => h (by rw [← e]; exact List.mem_cons_self)), putF_new fun hm => h (List.mem_cons_of_mem _ hm)]
    rfl
theorem s_fset {K : PySem.W.Frag} {m : Ev Val} {i c : Nat} {x : Str} (b : Blind Z) (hK : K = W.K) (hF : OwnC W.K (W.ca c) ∧ NoAttr W.K (W.ca c) x)
    (q : RS W Z (fun env h => (m env h).toS fun v h => (ofOpt (ownIL env i) h).toS fun t h =>
      if decide (t.1 = c) && (!t.2.1.contains x && decide (t.2.1.length < 900)) then .ok .nxt (setAt (.ownI c (t.2.1 ++ [x]) (t.2.2 ++ [v])) env i) h else .bad) D σ H) : sFld K (tVar i) (RD W Z m) x D σ H := by
  obtain ⟨zz, F0, μ0, H0, F, μ, env, h, A, a⟩ := q
  show RD W Z m σ H fun y H1 => ∃ o, σ[i]? = some (some o) ∧ ∃ a C dx fs, o = .ref a ∧ H1 a = some (.ins C dx fs) ∧ Cls K C ∧ NoAttr K C x ∧ fs.length < 1000 ∧ D.nx σ (upd H1 a (.ins C dx (putF x y fs)))
  refine rs_step b A a fun v h1 F1 μ1 H1 y A1 s1 v1 a1 => ?_
  obtain ⟨t, et, a2⟩ := aftS_opt a1
  have he := ownI_some et
  by_cases hc : (decide (t.1 = c) && (!t.2.1.contains x && decide (t.2.1.length < 900))) = true
  · rw [if_pos hc] at a2
    obtain ⟨c1, c2⟩ := and2 hc
    obtain ⟨c2, c3⟩ := and2 c2
    have c1 := of_decide_eq_true c1
    have c3 := of_decide_eq_true c3
    obtain ⟨o, e1, p, dx, fs, rfl, g, gd, en, rv, nf, nm, md, fl⟩ := A1.en.sl i _ he
    have ep : p = zz := by
      have z := A1.me i _ _ _ he
      rw [e1] at z
      cases z
      rfl
    have nx : x ∉ fs.map (·.1) := by
      rw [en]
      intro hm
      have : t.2.1.contains x = true := List.contains_iff_mem.mpr hm
      rw [this] at c2
      cases c2
    have ne : dx ≠ p := fun z => by
      rw [z, g] at gd
      cases gd
    subst hK
    rw [c1] at g
    refine ⟨_, e1, p, W.ca c, dx, fs, rfl, g, hF.1.cls, hF.2, ?_, ?_⟩
    · have : fs.length = t.2.1.length := by rw [← en, List.length_map]
      omega
    · rw [putF_new nx]
      obtain ⟨A3, M3⟩ := A1.put (s' := .ownI c (t.2.1 ++ [x]) (t.2.2 ++ [v])) (o := .ins (W.ca c) dx (fs ++ [(x, y)])) he rfl e1 ⟨p, dx, fs ++ [(x, y)], rfl, upd_same, (upd_ne ne).trans gd, by rw [List.map_append, en]; rfl, by
        rw [List.map_append]
        exact RVs.out nf _ _ (RVs.append rv ⟨y, [], rfl, v1, rfl⟩), nf, nm, md, hF.1, fun z hz => by
        rcases List.mem_append.mp hz with w | w
        · rw [← c1]; exact fl.2 z w
        · rw [List.mem_singleton.mp w]; exact hF.2⟩ (fun b z => by rw [g] at z; cases z) (fun _ _ _ _ => ep)
      exact a2 F1 μ1 _ σ A3 M3
  · rw [if_neg hc] at a2
    exact a2.elim
theorem s_ext {m : Ev (List Val)} {i : Nat} (K : PySem.W.Frag) (b : Blind Z) (q : RS W Z (fun env h => (ofOpt (ownL env i) h).toS fun vs h => (m env h).toS fun ws h => if decide (vs.length + ws.length ≤ most) then .ok .nxt (setAt (.own (vs ++ ws)) env i) h else .bad) D σ H) :
    tDrop (tBM K "list" rExtend (tVar i) (tCons (RDf W Z m) tNil)) D σ H := by
  obtain ⟨zz, F0, μ0, H0, F, μ, env, h, A, a⟩ := q
  obtain ⟨vs, ho, a⟩ := aftS_opt a
  have he := own_some ho
  obtain ⟨x, e1, p, xs, rfl, g, rv, nf, nm⟩ := A.en.sl i _ he
  refine ⟨.ref p, e1, .inl ⟨rfl, xs, SqL.of g⟩, ?_⟩
  show RDf W Z m σ H fun y H1 => rExtend (.ref p) [y] H1 fun _ H2 => D.nx σ H2
  refine rs_step b A a fun ws h1 F1 μ1 H1 y A1 s1 v1 a1 => ?_
  by_cases hl : decide (vs.length + ws.length ≤ most) = true
  · rw [if_pos hl] at a1
    obtain ⟨x', e1', p', xs', ex, g1, rv1, nf1, nm1⟩ := A1.en.sl i _ he
    rw [e1] at e1'
    cases e1'
    cases ex
    obtain ⟨c, zs, rfl, _, _, _, gc, rvc⟩ := v1
    refine ⟨p, c, xs', zs, rfl, rfl, g1, gc, ?_, ?_⟩
    · rw [← RVs.length rv1, ← RVs.length rvc]
      exact most_line (of_decide_eq_true hl)
    · obtain ⟨A2, M2⟩ := A1.put (s' := .own (vs ++ ws)) (o := .lst (xs' ++ zs)) he rfl e1 ⟨p, xs' ++ zs, rfl, upd_same, RVs.out nf1 _ _ (RVs.append rv1 rvc), nf1, nm1⟩ (fun b z => by rw [g1] at z; cases z) (fun c ns vs z => by cases z)
      exact a1 F1 μ1 _ σ A2 M2
  · rw [if_neg hl] at a1
    exact a1.elim
theorem s_appPop {m : Ev Val} {i j : Nat} (K : PySem.W.Frag) (b : Blind Z) (q : RS W Z (fun env h => (ofOpt (ownL env i) h).toS fun vs h => (ofOpt (ownL env j) h).toS fun ws h => (m env h).toS fun x h => (ofOpt (asI x) h).toS fun k h =>
      if decide (0 ≤ k) && (decide (k < 2 ^ 62) && (decide (vs.length ≤ most) && decide (i ≠ j))) then
        (ofOpt ws[k.toNat]? h).toS fun y h => .ok .nxt (setAt (.own (vs ++ [y])) (setAt (.own (ws.eraseIdx k.toNat)) env j) i) h
      else .bad) D σ H) :
    tDrop (tBM K "list" rAppend (tVar i) (tCons (tBM K "list" rPopAt (tVar j) (tCons (RD W Z m) tNil)) tNil)) D σ H := by
  obtain ⟨zz, F0, μ0, H0, F, μ, env, h, A, a⟩ := q
  obtain ⟨vs, ho, a⟩ := aftS_opt a
  obtain ⟨ws, ho2, a⟩ := aftS_opt a
  have he := own_some ho
  have he2 := own_some ho2
  obtain ⟨x, e1, p, xs, rfl, g, rv, nf, nm⟩ := A.en.sl i _ he
  obtain ⟨x2, e2, p2, ys, rfl, g2, rv2, nf2, nm2⟩ := A.en.sl j _ he2
  refine ⟨.ref p, e1, .inl ⟨rfl, xs, SqL.of g⟩, ?_⟩
  refine ⟨.ref p2, e2, .inl ⟨rfl, ys, SqL.of g2⟩, ?_⟩
  show RD W Z m σ H fun y H1 => rPopAt (.ref p2) [y] H1 fun z H2 => rAppend (.ref p) [z] H2 fun _ H3 => D.nx σ H3
  refine rs_step b A a fun v h1 F1 μ1 H1 y A1 s1 v1 a1 => ?_
  obtain ⟨k, ek, a2⟩ := aftS_opt a1
  by_cases hl : (decide (0 ≤ k) && (decide (k < 2 ^ 62) && (decide (vs.length ≤ most) && decide (i ≠ j)))) = true
  · rw [if_pos hl] at a2
    obtain ⟨l1, l2⟩ := and2 hl
    obtain ⟨l2, l3⟩ := and2 l2
    obtain ⟨l3, l4⟩ := and2 l3
    have l1 : 0 ≤ k := of_decide_eq_true l1
    have l2 : k < 2 ^ 62 := of_decide_eq_true l2
    have l3 := of_decide_eq_true l3
    have l4 : i ≠ j := of_decide_eq_true l4
    obtain ⟨w, ew, a3⟩ := aftS_opt a2
    cases v with
    | int k' =>
      cases ek
      obtain ⟨x', e1', p', xs', ex, g1, rv1, nf1, nm1⟩ := A1.en.sl i _ he
      rw [e1] at e1'
      cases e1'
      cases ex
      obtain ⟨x', e2', p', ys', ex, g3, rv3, nf3, nm3⟩ := A1.en.sl j _ he2
      rw [e2] at e2'
      cases e2'
      cases ex
      obtain ⟨z, ez, rz⟩ := RVs.get rv3 ew
      have hz : k.toNat < ys'.length := (List.getElem?_eq_some_iff.mp ez).1
      have sq : seqIndex? k ys'.length = some k.toNat := by
        unfold seqIndex?
        have h1 : ¬ k < 0 := by omega
        have h2 : k < ys'.length := by omega
        simp [h1, h2, l1]
      refine ⟨p2, ys', k, k.toNat, z, rfl, by rw [show y = V.int k from v1], g3, by omega, by omega, sq, ez, ?_⟩
      obtain ⟨A2, M2⟩ := A1.put (s' := .own (ws.eraseIdx k.toNat)) (o := .lst (ys'.eraseIdx k.toNat)) he2 rfl e2 ⟨p2, ys'.eraseIdx k.toNat, rfl, upd_same, RVs.out nf3 _ _ (RVs.eraseIdx _ rv3), nf3, nm3⟩ (fun b z => by rw [g3] at z; cases z) (fun c ns vs z => by cases z)
      have he3 : (env.set j (some (.own (ws.eraseIdx k.toNat))))[i]? = some (some (.own vs)) := by
        rw [List.getElem?_set_ne (Ne.symm l4)]
        exact he
      obtain ⟨x', e1', p', xs2, ex, g5, rv5, nf5, nm5⟩ := A2.en.sl i _ he3
      rw [e1] at e1'
      cases e1'
      cases ex
      have rz2 := RV.out (o := .lst (ys'.eraseIdx k.toNat)) nf3 _ _ rz
      refine ⟨p, xs2, z, rfl, rfl, g5, ?_, ?_⟩
      · rw [← RVs.length rv5]
        exact Nat.lt_of_le_of_lt l3 (by rw [sizeLine_eq]; decide)
      · obtain ⟨A3, M3⟩ := A2.put (s' := .own (vs ++ [w])) (o := .lst (xs2 ++ [z])) he3 rfl e1 ⟨p, xs2 ++ [z], rfl, upd_same, RVs.out nf5 _ _ (RVs.append rv5 ⟨z, [], rfl, rz2, rfl⟩), nf5, nm5⟩ (fun b z => by rw [g5] at z; cases z) (fun c ns vs z => by cases z)
        exact a3 F1 μ1 _ σ A3 (M2.trans M3)
    | _ => cases ek
  · rw [if_neg hl] at a2
    exact a2.elim
/-! ### parallel assignment with lists of the frame's own -/
/-- how what a part of it gives stands -/
def RP (W : Wd) (H0 : Hp) (F : Addr → Prop) (μ : List Addr) (H : Hp) (s : Slot) (x : V) : Prop := match s with
  | .v v => RV W F μ H v x
  | .own vs => Fresh W H0 F μ H vs x
  | _ => False
abbrev RDp (W : Wd) (Z : WX) (m : Ev Slot) : TE := RDg W Z (RP W) m
theorem rdp_v {m : Ev Val} {σ : L2.St} {H : Hp} {Q : VK} (q : RDp W Z (fun env h => (m env h).bind fun x h => .ok (.v x) h) σ H Q) : RD W Z m σ H Q := by
  obtain ⟨F, μ, env, h, r, e, a⟩ := q
  refine rd_step r e a fun v h' F' μ' H' x r1 e1 s1 v1 a1 => ?_
  exact a1 F' μ' H' x r1 s1 v1
theorem rdp_o {m : Ev (List Val)} {σ : L2.St} {H : Hp} {Q : VK} (q : RDp W Z (fun env h => (m env h).bind fun x h => .ok (.own x) h) σ H Q) : RDf W Z m σ H Q := by
  obtain ⟨F, μ, env, h, r, e, a⟩ := q
  refine rd_step r e a fun v h' F' μ' H' x r1 e1 s1 v1 a1 => ?_
  exact a1 F' μ' H' x r1 s1 v1
theorem RP.mono {s : Slot} {x : V} {H2 : Hp} (t : Stp F μ H F' μ' H') (q : RP W H2 F μ H s x) : RP W H2 F' μ' H' s x := by
  cases s with
  | v v => exact RV.mono t v x q
  | own vs =>
    obtain ⟨p, xs, rfl, n, nf, nm, g, rv⟩ := q
    have q2 := RSlot.mono t (o := .own vs) ⟨p, xs, rfl, g, rv, nf, nm⟩
    obtain ⟨p', xs', e, g', rv', nf', nm'⟩ := q2
    cases e
    exact ⟨p, xs', rfl, n, nf', nm', g', rv'⟩
  | _ => exact q.elim
/-- a slot gets what a part gives -/
theorem At.setP (A : At W zz F0 μ0 H0 F μ H h env σ) {i : Nat} {s : Slot} {x : V} {H2 : Hp} (q : RP W H2 F μ H s x) (n0 : ∀ p, H2 p = none → H0 p = none) (hn : ∀ j p, x = .ref p → isOwn s = true → ¬ OwnAt env σ j p) : At W zz F0 μ0 H0 F μ H h (env.set i (some s)) (σ.set i (some x)) := by
  cases s with
  | v v => exact A.setV q
  | own vs =>
    obtain ⟨p, xs, rfl, n, nf, nm, g, rv⟩ := q
    refine ⟨A.st, A.en.setOwn ⟨p, xs, rfl, g, rv, nf, nm⟩ fun j o => hn j p rfl rfl o, A.stp, fun c o => ?_, A.l0, fun j c ns vs z => ?_⟩
    · obtain ⟨j, o⟩ := o
      rcases own_set2 o with ⟨_, e⟩ | ⟨_, o⟩
      · rw [e]
        exact n0 p n
      · exact A.own c ⟨j, o⟩
    · rcases getSet z with ⟨_, w⟩ | ⟨hn, w⟩
      · cases w
      · rw [List.getElem?_set_ne hn]
        exact A.me j c ns vs w
  | _ => exact q.elim
theorem RP.fresh {s : Slot} {p : Addr} {H2 : Hp} (q : RP W H2 F μ H s (.ref p)) (ho : isOwn s = true) : H2 p = none ∧ H p ≠ none := by
  cases s with
  | v v => cases ho
  | own vs =>
    obtain ⟨p', xs, e, n, nf, nm, g, rv⟩ := q
    cases e
    exact ⟨n, by rw [g]; exact fun z => by cases z⟩
  | _ => exact q.elim
theorem own_in_set {i : Nat} {s : Slot} {x : V} {j : Nat} {p : Addr} (o : OwnAt (env.set i (some s)) (σ.set i (some x)) j p) : (isOwn s = true ∧ x = .ref p) ∨ OwnAt env σ j p := by
  obtain ⟨t, e1, e2, e3⟩ := o
  rcases getSet e1 with ⟨e, z⟩ | ⟨hn, z⟩
  · cases z
    rcases getSet e3 with ⟨_, w⟩ | ⟨hn, _⟩
    · cases w
      exact .inl ⟨e2, rfl⟩
    · exact absurd e hn
  · rcases getSet e3 with ⟨w, _⟩ | ⟨_, w⟩
    · exact absurd w hn
    · exact .inr ⟨t, z, e2, w⟩
theorem s_parP2 {m1 m2 : Ev Slot} {i j : Nat} (b : Blind Z) (q : RS W Z (fun env h => (m1 env h).toS fun s1 h => (m2 env h).toS fun s2 h => .ok .nxt (setSl env [i, j] [s1, s2]) h) D σ H) : tPar i j (tCons (RDp W Z m1) (tCons (RDp W Z m2) tNil)) D σ H := by
  obtain ⟨zz, F0, μ0, H0, F, μ, env, h, A, a⟩ := q
  show RDp W Z m1 σ H fun x H1 => RDp W Z m2 σ H1 fun y H2 => ∃ v w, [x, y] = [v, w] ∧ D.nx ((σ.set i (some v)).set j (some w)) H2
  refine rs_step b A a fun u h1 F1 μ1 H1 x A1 s1 v1 a1 => ?_
  refine rs_step b A1 a1 fun v h2 F2 μ2 H2 y A2 s2 v2 a2 => ?_
  refine ⟨x, y, rfl, ?_⟩
  have w1 := v1.mono s2
  have B1 := A2.setP (i := i) w1 (fun p n => none_back A.stp n) fun k p ex ho o => by
    subst ex
    exact (A.en.own_live ⟨k, o⟩).1 (v1.fresh ho).1
  have B2 := B1.setP (i := j) v2 (fun p n => none_back A1.stp n) fun k p ex ho o => by
    subst ex
    have n1 := (v2.fresh ho).1
    rcases own_in_set o with ⟨h3, h4⟩ | o
    · subst h4
      exact (v1.fresh h3).2 n1
    · exact (A1.en.own_live ⟨k, o⟩).1 n1
  exact a2 F2 μ2 H2 _ B2 Mon.refl
theorem s_parP2t {m1 m2 : Ev Slot} {i j : Nat} {K : PySem.W.Frag} (b : Blind Z) (q : RS W Z (fun env h => (m1 env h).toS fun s1 h => (m2 env h).toS fun s2 h => .ok .nxt (setSl env [i, j] [s1, s2]) h) D σ H) : tAsg (tTup (tCons (RDp W Z m1) (tCons (RDp W Z m2) tNil))) (gTup K 2 (gCons (gName i) (gCons (gName j) gNil))) D σ H := by
  obtain ⟨zz, F0, μ0, H0, F, μ, env, h, A, a⟩ := q
  show RDp W Z m1 σ H fun x H1 => RDp W Z m2 σ H1 fun y H2 => [x, y].length ≤ sizeLine ∧ ∀ p, H2 p = none → gTup K 2 (gCons (gName i) (gCons (gName j) gNil)) (.ref p) σ (upd H2 p (.tup [x, y])) D.nx
  refine rs_step b A a fun u h1 F1 μ1 H1 x A1 s1 v1 a1 => ?_
  refine rs_step b A1 a1 fun v h2 F2 μ2 H2 y A2 s2 v2 a2 => ?_
  refine ⟨by show 2 ≤ sizeLine; rw [sizeLine_eq]; decide, fun p0 np => ⟨p0, [x, y], rfl, SqT.of upd_same, rfl, x, [y], rfl, y, [], rfl, rfl, ?_⟩⟩
  have sf : Stp F2 μ2 H2 F2 μ2 (upd H2 p0 (.tup [x, y])) := Stp.fresh np (A2.st.notF np)
  have A3 := A2.step (A2.st.fresh np) sf
  have w1 := (v1.mono s2).mono sf
  have w2 := v2.mono sf
  have B1 := A3.setP (i := i) w1 (fun p n => none_back A.stp n) fun k p ex ho o => by
    subst ex
    exact (A.en.own_live ⟨k, o⟩).1 (v1.fresh ho).1
  have B2 := B1.setP (i := j) w2 (fun p n => none_back A1.stp n) fun k p ex ho o => by
    subst ex
    have n1 := (v2.fresh ho).1
    rcases own_in_set o with ⟨h3, h4⟩ | o
    · subst h4
      exact (v1.fresh h3).2 n1
    · exact (A1.en.own_live ⟨k, o⟩).1 n1
  exact a2 F2 μ2 _ _ B2 sf.mon
theorem s_parP3 {m1 m2 m3 : Ev Slot} {i j k : Nat} (b : Blind Z) (q : RS W Z (fun env h => (m1 env h).toS fun s1 h => (m2 env h).toS fun s2 h => (m3 env h).toS fun s3 h => .ok .nxt (setSl env [i, j, k] [s1, s2, s3]) h) D σ H) :
    tPar3 i j k (tCons (RDp W Z m1) (tCons (RDp W Z m2) (tCons (RDp W Z m3) tNil))) D σ H := by
  obtain ⟨zz, F0, μ0, H0, F, μ, env, h, A, a⟩ := q
  show RDp W Z m1 σ H fun x H1 => RDp W Z m2 σ H1 fun y H2 => RDp W Z m3 σ H2 fun z H3 => ∃ u v w, [x, y, z] = [u, v, w] ∧ D.nx (((σ.set i (some u)).set j (some v)).set k (some w)) H3
  refine rs_step b A a fun u h1 F1 μ1 H1 x A1 s1 v1 a1 => ?_
  refine rs_step b A1 a1 fun v h2 F2 μ2 H2 y A2 s2 v2 a2 => ?_
  refine rs_step b A2 a2 fun w h3 F3 μ3 H3 z A3 s3 v3 a3 => ?_
  refine ⟨x, y, z, rfl, ?_⟩
  have w1 := (v1.mono s2).mono s3
  have w2 := v2.mono s3
  have B1 := A3.setP (i := i) w1 (fun p n => none_back A.stp n) fun l p ex ho o => by
    subst ex
    exact (A.en.own_live ⟨l, o⟩).1 (v1.fresh ho).1
  have B2 := B1.setP (i := j) w2 (fun p n => none_back A1.stp n) fun l p ex ho o => by
    subst ex
    have n1 := (v2.fresh ho).1
    rcases own_in_set o with ⟨g3, g4⟩ | o
    · subst g4
      exact (v1.fresh g3).2 n1
    · exact (A1.en.own_live ⟨l, o⟩).1 n1
  have B3 := B2.setP (i := k) v3 (fun p n => none_back A2.stp n) fun l p ex ho o => by
    subst ex
    have n1 := (v3.fresh ho).1
    rcases own_in_set o with ⟨g3, g4⟩ | o
    · subst g4
      exact (v2.fresh g3).2 n1
    · rcases own_in_set o with ⟨g3, g4⟩ | o
      · subst g4
        exact ((v1.mono s2).fresh g3).2 n1
      · exact (A2.en.own_live ⟨l, o⟩).1 n1
  exact a3 F3 μ3 H3 _ B3 Mon.refl
end
end Pyi
set_option Elab.async false
set_option linter.all false
set_option maxRecDepth 100000
set_option maxHeartbeats 2000000
/-! f = dict(list(d.items())); f[k] = v; return f -/
namespace Pyi
open PySem PySem.Spec PyProof.Rows L2 LiI
section
variable {U : Nat → Option Def} {W : Wd} {L : Lk} {k : Nat} {N : List Str} {sc ow : Scope} {X : Cx} {Z : WX}
theorem keep_st {F : Addr → Prop} {μ : List Addr} {H G : Hp} {h : Hs} (r : RSt W F μ H h) (kp : ∀ b o, H b = some o → G b = some o) : RSt W F μ G h ∧ Stp F μ H F μ G := by
  have fz : ∀ c, F c → G c = H c := fun c f => by
    cases hc : H c with
    | none => exact absurd hc (r.lf c f)
    | some o => exact kp c o hc
  have mu : ∀ c, c ∈ μ → G c = H c := fun c hc => by
    cases hh : H c with
    | none => exact absurd hh (r.lm c hc)
    | some o => exact kp c o hh
  have s : Stp F μ H F μ G := ⟨fun _ f => f, ⟨[], (List.append_nil μ).symm⟩, fz, fun c o e _ => kp c o e, fun c f => .inl f, fun _ f => .inl f, fun c e => by
    cases hh : H c with
    | none => exact absurd hh e
    | some o => rw [kp c o hh]; exact fun z => by cases z⟩
  exact ⟨r.same s mu fun a f => by rw [fz a f]; exact r.lf a f, s⟩
theorem zipK_of : ∀ (kvs : List (L2.Key × L2.V)) (ns : List Str), strsL (kvs.map fun p => keyV p.1) = some ns → kvs = zipK ns (kvs.map (·.2)) ∧ ns.length = kvs.length
  | [], ns, h => by
    cases h
    exact ⟨rfl, rfl⟩
  | (.inl i, x) :: kvs, ns, h => by cases h
  | (.inr z, x) :: kvs, ns, h => by
    obtain ⟨ms, e1, e2⟩ := Option.map_eq_some_iff.mp (show (strsL (kvs.map fun p => keyV p.1)).map (z :: ·) = some ns from h)
    subst e2
    obtain ⟨q1, q2⟩ := zipK_of kvs ms e1
    refine ⟨?_, by rw [List.length_cons, List.length_cons, q2]⟩
    show (.inr z, x) :: kvs = (.inr z, x) :: zipK ms (kvs.map (·.2))
    rw [← q1]
def tWth (i d k v : Nat) : TS := tSeq (tAsg (tCB (fun xs H Q => ∃ (a : Addr) (ps : List Addr) (kvs : List (L2.Key × V)), xs = [.ref a] ∧ SqL W.K H a (ps.map V.ref) ∧ Paired (fun p kv => SqT W.K H p [kV kv.1, kv.2]) ps kvs ∧
    ∀ p, H p = none → Q (.ref p) (upd H p (.dK (mergeK [] kvs)))) (tCons (tListItems (tVar d)) tNil)) (gName i)) (tSeq (sDPut (tVar i) (tVar k) (tVar v)) (tRet (tVar i)))
theorem paired_sq {K : PySem.W.Frag} {H : Hp} : ∀ {ts : List Addr} {kvs : List (L2.Key × V)}, Paired (fun (t : Addr) (q : L2.Key × V) => H t = some (.tup [kV q.1, q.2])) ts kvs → Paired (fun p kv => SqT K H p [kV kv.1, kv.2]) ts kvs
  | _, _, .nil => .nil
  | _, _, .cons h t => .cons (SqT.of h) (paired_sq t)
theorem s_wth {D : Ends} {σ : L2.St} {H : Hp} {i d k v : Nat} (hk : i ≠ k) (hv : i ≠ v) (q : RS W Z (fun env h => (ofOpt (varV env d) h).toS fun x h => (ofOpt (varV env v) h).toS fun z h => (ofOpt (varV env k) h).toS fun y h => (ofOpt (withV x y z) h).toS fun w h => if decide (i < env.length) then .ok (.ret w) env h else .bad) D σ H) :
    tWth (W := W) i d k v D σ H := by
  obtain ⟨zz, F0, μ0, H0, F, μ, env, h, A, a⟩ := q
  obtain ⟨x, e1, a⟩ := aftS_opt a
  obtain ⟨z, e2, a⟩ := aftS_opt a
  obtain ⟨y, e3, a⟩ := aftS_opt a
  obtain ⟨w, e4, a⟩ := aftS_opt a
  obtain ⟨x1, p1, r1⟩ := A.en.sl d _ (var_some e1)
  obtain ⟨z1, p2, r2⟩ := A.en.sl v _ (var_some e2)
  obtain ⟨y1, p3, r3⟩ := A.en.sl k _ (var_some e3)
  have r1 : RV W F μ H x x1 := r1
  have r2 : RV W F μ H z z1 := r2
  have r3 : RV W F μ H y y1 := r3
  cases x with
  | dct ks vs =>
    obtain ⟨ns, e5, e6⟩ := Option.bind_eq_some_iff.mp (show (strsL ks).bind (fun ns => if decide ns.Nodup && (flatK y && decide (ks.length ≤ most)) then some (Val.dct (dput ks vs y z).1 (dput ks vs y z).2) else none) = some w from e4)
    by_cases hc : (decide ns.Nodup && (flatK y && decide (ks.length ≤ most))) = true
    · rw [if_pos hc] at e6
      cases e6
      obtain ⟨c1a, c2a⟩ := and2 hc
      obtain ⟨c2, c3a⟩ := and2 c2a
      have c1 := of_decide_eq_true c1a
      have c3 := of_decide_eq_true c3a
      clear c2a hc
      obtain ⟨b, kvs, rfl, fb, gb, ek, rv⟩ := r1
      subst ek
      obtain ⟨zk, zl⟩ := zipK_of kvs ns e5
      have mk : mergeK [] kvs = kvs := by
        conv => lhs; rw [zk]
        rw [mergeK_new ns _ [] c1 (fun n _ p hp => nomatch hp), List.nil_append, ← zk]
      refine ⟨_, p1, b, kvs, rfl, gb, fun H1 p ts kp np nts pn gp pr => ⟨p, ts, kvs, rfl, SqL.of gp, paired_sq pr, fun n nn => ?_⟩⟩
      rw [mk]
      obtain ⟨ra, sa⟩ := keep_st A.st kp
      refine ⟨z1, by rw [List.getElem?_set_ne hv]; exact p2, ?_⟩
      obtain ⟨key, ey, ew⟩ := key_of_flat c2 r3
      subst ew
      have len : kvs.length < sizeLine := Nat.lt_of_le_of_lt (by rw [List.length_map] at c3; exact c3) (by rw [sizeLine_eq]; decide)
      by_cases hi : decide (i < env.length) = true
      · rw [if_pos hi] at a
        have hi : i < σ.length := by rw [← A.en.len]; exact of_decide_eq_true hi
        refine ⟨.ref n, List.getElem?_set_self hi, y1, by rw [List.getElem?_set_ne hk]; exact p3, n, _, rfl, .inl ⟨kvs, key, upd_same, ey, len, rfl⟩, .ref n, List.getElem?_set_self hi, ?_⟩
        rw [upd_upd]
        have rb := ra.laid (o := .dK (putK kvs key z1)) nn
        have sb := Stp.laid (F := F) (μ := μ) (o := .dK (putK kvs key z1)) nn (ra.notM nn) (ra.notF nn)
        refine a _ μ _ (.ref n) rb (A.stp.trans (sa.trans sb)) ⟨n, putK kvs key z1, rfl, .inr rfl, upd_same, putF_keys, ?_⟩
        exact putF_vals (RVs.mono (sa.trans sb) _ _ rv) (RV.mono (sa.trans sb) _ _ r2)
      · rw [if_neg hi] at a
        exact a.elim
    · rw [if_neg hc] at e6
      cases e6
  | _ => cases e4
end
end Pyi
set_option Elab.async false
set_option linter.all false
set_option maxRecDepth 100000
set_option maxHeartbeats 2000000
/-! The interpreter is right: statements and defs, by the look at the text. -/
namespace Pyi
open PySem PySem.Spec PyProof.Rows L2

def asAssign : Stmt → Option (Expr × Expr × Pos)
  | .Assign ts x p => match ts with
    | [t] => some (t, x, p)
    | _ => none
  | _ => none
theorem asAssign_eq {s : Stmt} {t x : Expr} {p : Pos} (h : asAssign s = some (t, x, p)) : s = .Assign [t] x p := by
  cases s with
  | Assign ts x' p' =>
    match ts, h with
    | [], h => cases h
    | [_], h => cases h; rfl
    | _ :: _ :: _, h => cases h
  | _ => cases h
def asAug : Stmt → Option (Expr × Operator × Expr × Pos)
  | .AugAssign t o x p => some (t, o, x, p)
  | _ => none
theorem asAug_eq {s : Stmt} {t x : Expr} {o : Operator} {p : Pos} (h : asAug s = some (t, o, x, p)) : s = .AugAssign t o x p := by cases s <;> cases h; rfl
def asRet : Stmt → Option (Option Expr × Pos)
  | .Return x p => some (x, p)
  | _ => none
theorem asRet_eq {s : Stmt} {x : Option Expr} {p : Pos} (h : asRet s = some (x, p)) : s = .Return x p := by cases s <;> cases h; rfl
def asIfS : Stmt → Option (Expr × List Stmt × List Stmt × Pos)
  | .If c a b p => some (c, a, b, p)
  | _ => none
theorem asIfS_eq {s : Stmt} {c : Expr} {a b : List Stmt} {p : Pos} (h : asIfS s = some (c, a, b, p)) : s = .If c a b p := by cases s <;> cases h; rfl
def asFor : Stmt → Option (Expr × Expr × List Stmt × List Stmt × Pos)
  | .For t i b o p => some (t, i, b, o, p)
  | _ => none
theorem asFor_eq {s : Stmt} {t i : Expr} {b o : List Stmt} {p : Pos} (h : asFor s = some (t, i, b, o, p)) : s = .For t i b o p := by cases s <;> cases h; rfl
def asWhile : Stmt → Option (Expr × List Stmt × List Stmt × Pos)
  | .While c b o p => some (c, b, o, p)
  | _ => none
theorem asWhile_eq {s : Stmt} {c : Expr} {b o : List Stmt} {p : Pos} (h : asWhile s = some (c, b, o, p)) : s = .While c b o p := by cases s <;> cases h; rfl
def asExp : Stmt → Option (Expr × Pos)
  | .Expr x p => some (x, p)
  | _ => none
theorem asExp_eq {s : Stmt} {x : Expr} {p : Pos} (h : asExp s = some (x, p)) : s = .Expr x p := by cases s <;> cases h; rfl
def isPass : Stmt → Bool
  | .Pass _ => true
  | .Expr x _ => match x with
    | .Constant c _ _ => match c with
      | .str _ => true
      | _ => false
    | _ => false
  | _ => false
/-- is the name stored while the value still is in the making -/
def swB (sc : Scope) (t : Str) (tl : Nat) (x : Expr) : Bool := match x with
  | .ListComp _ _ s p => decide (sc.names.lookup t = some .local) && (tl == p.line) && !(s.names.any fun (n, k) => n == t && (k == .local || k == .cell))
  | _ => false
def swD (sc : Scope) (t : Str) (tl : Nat) (x : Expr) : Bool := match x with
  | .DictComp _ _ _ s p => decide (sc.names.lookup t = some .local) && (tl == p.line) && !(s.names.any fun (n, k) => n == t && (k == .local || k == .cell))
  | _ => false
def locName (N : List Str) (sc : Scope) (i : Nat) (t : Expr) : Bool := match asName t with
  | some y => decide (N[i]? = some y) && locB sc y
  | none => false
/-- a name of the def that no inner one uses -/
def plainName (N : List Str) (sc : Scope) (l : Nat) (i : Nat) (t : Expr) : Bool := match asName t with
  | some y => decide (N[i]? = some y) && decide (sc.names.lookup y = some .local) && decide (t.pos.line = l)
  | none => false
/-- two of the def's names, one of them read by an inner one -/
def notPlain (sc : Scope) (t : Expr) : Bool := match asName t with
  | some y => decide (sc.names.lookup y ≠ some .local)
  | none => false
def cellTwo (N : List Str) (sc : Scope) (i j : Nat) (a b : Expr) : Bool := locName N sc i a && locName N sc j b && (notPlain sc a || notPlain sc b)
/-- a tuple of which all is folded -/
def allFold (x : Expr) : Bool := match asTup x with
  | some xs => xs.all (foldedForSure 8)
  | none => false
/-- a target among a tuple's that is no plain name of the def -/
def someCell (sc : Scope) (t : Expr) : Bool := match asTup t with
  | some ts => ts.any fun t => match asName t with
    | some y => !decide (sc.names.lookup y = some .local)
    | none => true
  | none => false
/-- f = dict(list(d.items())); f[k] = v; return f -/
def isDictOf (N : List Str) (sc : Scope) (d : Nat) (x : Expr) : Bool := match asCall x with
  | some (c1, xs, ks) => match xs with
    | [y] => ks.isEmpty && gnameIs sc "dict" c1 && (match asCall y with
      | some (c2, ys, ks2) => match ys with
        | [z] => ks2.isEmpty && gnameIs sc "list" c2 && (match asMeth z with
          | some (o, n, ap, es, ks3, cp) => es.isEmpty && ks3.isEmpty && decide (n = ("items" : Str)) && (ap.endLine == cp.line) && nameIs N sc d o
          | none => false)
        | _ => false
      | none => false)
    | _ => false
  | none => false
def chkW (N : List Str) (sc : Scope) (i d k v : Nat) (sts : List Stmt) : Bool := match sts with
  | [s1, s2, s3] => decide (i ≠ k) && decide (i ≠ v) && (match asAssign s1 with
    | some (t, x, _) => locName N sc i t && isDictOf N sc d x
    | none => false) && (match asAssign s2 with
    | some (t, x, _) => nameIs N sc v x && (match asSub t with
      | some (p, q) => nameIs N sc i p && nameIs N sc k q
      | none => false)
    | none => false) && (match asRet s3 with
    | some (x, _) => match x with
      | some x => nameIs N sc i x
      | none => false
    | none => false)
  | _ => false
section
variable (L : Lk) (N : List Str)
def chkP (p : PItem) (sc : Scope) (x : Expr) : Bool := match p with
  | .v e => chkE L N e sc sc x
  | .o f => chkF L N f sc sc x
mutual
def chkS (s : S) (sc : Scope) (st : Stmt) : Bool := match s with
  | .set i e => match asAssign st with
    | some (t, x, _) => !isStarE e && locName N sc i t && (notComp x || (asComp x).isSome) && chkE L N e sc sc x
    | none => false
  | .tset tg e => match asAssign st with
    | some (t, x, _) => (asTup t).isSome && ((asTup x).isNone || allFold x || someCell sc t) && notComp x && chkT N sc tg t && chkE L N e sc sc x
    | none => false
  | .par is es => match asAssign st with
    | some (t, x, _) => match asTup t, asTup x with
      | some ts, some xs => xs.all notStar && !(xs.all (foldedForSure 8)) && !(xs.all (constantsAlone 8)) && chkEs L N es sc sc xs && (match (generalizing := false) is, ts with
        | [i, j], [a, b] => plainName N sc a.pos.line i a && plainName N sc a.pos.line j b && decide (i ≠ j) && decide (xs.length = 2)
        | [i, j, k], [a, b, c] => plainName N sc a.pos.line i a && plainName N sc a.pos.line j b && plainName N sc a.pos.line k c && decide (i ≠ j) && decide (i ≠ k) && decide (j ≠ k) && decide (xs.length = 3)
        | _, _ => false)
      | _, _ => false
    | none => false
  | .setD i k v tg it => match asAssign st with
    | some (t, x, _) => locName N sc i t && chkE L N (.dcomp k v tg it) sc sc x
    | none => false
  | .parO is ps => match asAssign st with
    | some (t, x, _) => match asTup t, asTup x with
      | some ts, some xs => xs.all notStar && !(xs.all (foldedForSure 8)) && !(xs.all (constantsAlone 8)) && (match (generalizing := false) is, ts, ps, xs with
        | [i, j], [a, b], [p, q], [u, v] => (plainName N sc a.pos.line i a && plainName N sc a.pos.line j b || cellTwo N sc i j a b) && decide (i ≠ j) && chkP L N p sc u && chkP L N q sc v
        | [i, j, k], [a, b, c], [p, q, r], [u, v, w] => plainName N sc a.pos.line i a && plainName N sc a.pos.line j b && plainName N sc a.pos.line k c && decide (i ≠ j) && decide (i ≠ k) && decide (j ≠ k) && chkP L N p sc u && chkP L N q sc v && chkP L N r sc w
        | _, _, _, _ => false)
      | _, _ => false
    | none => false
  | .unK is y ns => match asAssign st with
    | some (t, x, _) => match asTup t with
      | some ts => gnameIs sc y x && decide (L.gt y = some ns) && decide (is.length = ns.length) && ts.all notStar && chkTs N sc (is.map Tg.v) ts
      | none => false
    | none => false
  | .own i f => match asAssign st with
    | some (t, x, _) => locName N sc i t && (notComp x || (asComp x).isSome) && chkF L N f sc sc x
    | none => false
  | .ownD i => match asAssign st with
    | some (t, x, _) => locName N sc i t && (match asDict x with
      | some (ks, vs) => ks.isEmpty && vs.isEmpty
      | none => false)
    | none => false
  | .frz _ => false
  | .wthR _ _ _ _ => false
  | .app i e => match asExp st with
    | some (x, _) => match asMeth x with
      | some (o, n, ap, es, ks, p) => match es with
        | [y] => ks.isEmpty && decide (n = ("append" : Str)) && (ap.endLine == p.line) && nameIs N sc i o && notStar y && chkE L N e sc sc y
        | _ => false
      | none => false
    | none => false
  | .appPop i j e => match asExp st with
    | some (x, _) => match asMeth x with
      | some (o, n, ap, es, ks, p) => match es with
        | [y] => ks.isEmpty && decide (n = ("append" : Str)) && (ap.endLine == p.line) && nameIs N sc i o && (match asMeth y with
          | some (o2, n2, ap2, es2, ks2, p2) => match es2 with
            | [z] => ks2.isEmpty && decide (n2 = ("pop" : Str)) && (ap2.endLine == p2.line) && nameIs N sc j o2 && notStar z && chkE L N e sc sc z
            | _ => false
          | none => false)
        | _ => false
      | none => false
    | none => false
  | .ext i f => match asExp st with
    | some (x, _) => match asMeth x with
      | some (o, n, ap, es, ks, p) => match es with
        | [y] => ks.isEmpty && decide (n = ("extend" : Str)) && (ap.endLine == p.line) && nameIs N sc i o && notStar y && chkF L N f sc sc y
        | _ => false
      | none => false
    | none => false
  | .setI a i e => match asAssign st with
    | some (t, x, _) => match asSub t with
      | some (p, q) => notSlice q && notComp x && chkE L N e sc sc x && chkE L N a sc sc p && chkE L N i sc sc q
      | none => false
    | none => false
  | .oset x i e => match asAssign st with
    | some (t, y, _) => match asSub t with
      | some (p, q) => notSlice q && notComp y && chkE L N e sc sc y && nameIs N sc x p && chkE L N i sc sc q
      | none => false
    | none => false
  | .dset x k e => match asAssign st with
    | some (t, y, _) => match asSub t with
      | some (p, q) => notComp y && chkE L N e sc sc y && nameIs N sc x p && chkE L N k sc sc q
      | none => false
    | none => false
  | .aug i o e => match asAug st with
    | some (t, o', x, _) => decide (o' = opB o) && locName N sc i t && (decide (o = .add) || decide (o = .sub)) && chkE L N e sc sc x
    | none => false
  | .ret e => match asRet st with
    | some (x, _) => match x with
      | some x => chkE L N e sc sc x
      | none => false
    | none => false
  | .retN => match asRet st with
    | some (x, _) => x.isNone
    | none => false
  | .if_ c a b => match asIfS st with
    | some (x, p, q, _) => notIf x && chkE L N c sc sc x && chkSs a sc p && chkSs b sc q
    | none => false
  | .for_ tg it b => match asFor st with
    | some (t, x, p, o, _) => o.isEmpty && notSet x && chkIt L N it t sc sc x && chkT N sc tg t && chkSs b sc p
    | none => false
  | .while_ c b => match asWhile st with
    | some (x, p, o, _) => o.isEmpty && notIf x && chkE L N c sc sc x && chkSs b sc p
    | none => false
  | .raise _ _ => false
  | .ex e => match asExp st with
    | some (x, _) => notComp x && chkE L N e sc sc x
    | none => false
  | .pass => isPass st
  | .nev => true
  | .fset i c y e => match asAssign st with
    | some (t, x, _) => match asAttr t with
      | some (o, n) => decide (n = y) && nameIs N sc i o && L.na c y && notComp x && chkE L N e sc sc x
      | none => false
    | none => false
def chkSs (ss : List S) (sc : Scope) (sts : List Stmt) : Bool := match ss with
  | [] => match sts with | [] => true | _ => false
  | s :: ss => match s with
    | .frz _ => chkSs ss sc sts
    | .wthR i d k v => ss.isEmpty && chkW N sc i d k v sts
    | s => match sts with | st :: sts => chkS s sc st && chkSs ss sc sts | [] => false
end
end
/-- besides Gd, for statements -/
structure Gs (X : Cx) (Z : WX) : Prop where
  own : PassesOwn (model X.prog X.w) X.A X.env X.xe
  blind : Blind Z
  kind : X.env.scope.kind = .function
section
variable {U : Nat → Option Def} {W : Wd} {L : Lk} {k : Nat} {N : List Str} {sc : Scope} {X : Cx} {Z : WX}
theorem Gd.loc {ow : Scope} (g : Gd W k N sc ow X Z) {i : Nat} {t : Expr} (h : locName N ow i t = true) : ∃ y p, t = .Name y p ∧ X.N[i]? = some y ∧ Loc X.env.scope y ∧ (X.fn y = true ∨ X.env.scope.names.lookup y = some .local) := by
  unfold locName at h
  cases e : asName t with
  | none => rw [e] at h; cases h
  | some y =>
    rw [e] at h
    obtain ⟨p, rfl⟩ := asName_eq e
    obtain ⟨h1, h2⟩ := and2 h
    obtain ⟨l1, l2⟩ := g.st y h2
    exact ⟨y, p, rfl, by rw [g.eN]; exact of_decide_eq_true h1, l1, l2⟩
theorem Gd.locN {ow : Scope} (g : Gd W k N sc ow X Z) {i : Nat} {t : Expr} (h : locName N ow i t = true) : ∃ y p, t = .Name y p ∧ X.N[i]? = some y ∧ Loc X.env.scope y ∧ (X.fn y = true ∨ X.env.scope.names.lookup y = some .local) := by
  unfold locName at h
  cases e : asName t with
  | none => rw [e] at h; cases h
  | some y =>
    rw [e] at h
    obtain ⟨p, rfl⟩ := asName_eq e
    obtain ⟨h1, h2⟩ := and2 h
    obtain ⟨l1, l2⟩ := g.st y h2
    exact ⟨y, p, rfl, by rw [g.eN]; exact of_decide_eq_true h1, l1, l2⟩
theorem Gd.plain {ow : Scope} (g : Gd W k N sc ow X Z) {i l : Nat} {t : Expr} (h : plainName N sc l i t = true) : ∃ y p, t = .Name y p ∧ X.N[i]? = some y ∧ X.env.scope.names.lookup y = some .local ∧ p.line = l := by
  unfold plainName at h
  cases e : asName t with
  | none => rw [e] at h; cases h
  | some y =>
    rw [e] at h
    obtain ⟨p, rfl⟩ := asName_eq e
    obtain ⟨h0, h2⟩ := and2 h
    obtain ⟨h0, h1⟩ := and2 h0
    exact ⟨y, p, rfl, by rw [g.eN]; exact of_decide_eq_true h0, by rw [g.sc]; exact of_decide_eq_true h1, of_decide_eq_true h2⟩
theorem blk_fn {env : PySem.Env} (hk : env.scope.kind = .function) : env.blockKind = .function := by
  unfold PySem.Env.blockKind
  rw [hk]
  rfl
theorem swaps_comp {elt : Expr} {gs : List Comprehension} {scope : Scope} {pos py : Pos} {y : Str} {l : Nat} {env : PySem.Env} (hk : env.scope.kind = .function) :
    swapsWith (.ListComp elt gs scope pos) (some (.Name y py)) l env = pure (swB env.scope y py.line (.ListComp elt gs scope pos)) := by
  have hb := blk_fn hk
  have e : (env.kindOf y == some .local) = decide (env.scope.names.lookup y = some .local) := by
    unfold PySem.Env.kindOf
    generalize env.scope.names.lookup y = o
    cases o with
    | none => rfl
    | some kd => cases kd <;> rfl
  unfold swapsWith swB
  show pure (env.blockKind == .function && (env.kindOf y == some .local) && (py.line == pos.line) && !(scope.names.any fun (n, k) => n == y && (k == .local || k == .cell))) = _
  rw [e, hb]
  rfl
theorem swaps_dcomp {kx vx : Expr} {gs : List Comprehension} {scope : Scope} {pos py : Pos} {y : Str} {l : Nat} {env : PySem.Env} (hk : env.scope.kind = .function) :
    swapsWith (.DictComp kx vx gs scope pos) (some (.Name y py)) l env = pure (swD env.scope y py.line (.DictComp kx vx gs scope pos)) := by
  have hb := blk_fn hk
  have e : (env.kindOf y == some .local) = decide (env.scope.names.lookup y = some .local) := by
    unfold PySem.Env.kindOf
    generalize env.scope.names.lookup y = o
    cases o with
    | none => rfl
    | some kd => cases kd <;> rfl
  unfold swapsWith swD
  show pure (env.blockKind == .function && (env.kindOf y == some .local) && (py.line == pos.line) && !(scope.names.any fun (n, k) => n == y && (k == .local || k == .cell))) = _
  rw [e, hb]
  rfl
/-- the parts of a list comprehension -/
theorem comp_of (hy : Hyp U W L k) {sc ow : Scope} {X : Cx} {Z : WX} (g : Gd W k N sc ow X Z) {e : E} {tg : Tg} {it : It} {cs : List E} {x : Expr} (h : chkF L N (.comp e tg it cs) sc ow x = true) :
    ∃ ex tx ix ifs scp pos, x = .ListComp ex [⟨tx, ix, ifs, 0⟩] scp pos ∧ PI X tx ix (RDi W Z (evIt (callD U k) it)) ∧ BlkOk X.N X.env.scope scp (ownOf N tg.slots) ∧
      (∀ (s : Shared) (H : Hp) (C : Addr) (cl : List (Str × Addr)) (fp : List Addr), PG (X.blk s H scp (compEnvC scp cl C X.env) fp) tx (gG W tg)) ∧
      (∀ (s : Shared) (H : Hp) (C : Addr) (cl : List (Str × Addr)) (fp : List Addr), PTs (X.blk s H scp (compEnvC scp cl C X.env) fp) ifs (RDg W Z0 (fun _ _ _ _ b c => b = c) (evC (callD U k) cs))) ∧
      (∀ (s : Shared) (H : Hp) (C : Addr) (cl : List (Str × Addr)) (fp : List Addr), PE (X.blk s H scp (compEnvC scp cl C X.env) fp) ex (RD W Z0 (evE (callD U k) e))) ∧ ∀ x, foldedSetIterable ix X.env x = pure x := by
  have h' : (match asComp x with
    | some (ex, gs, scp) => match gs with
      | [⟨tx, ix, ifs, as⟩] => decide (as = 0) && notSet ix && chkIt L N it tx sc ow ix && blkC N sc scp (ownOf N tg.slots) && chkT N scp tg tx && chkC L N cs (relS scp sc) scp ifs && chkE L N e (relS scp sc) scp ex
      | _ => false
    | none => false) = true := h
  cases e1 : asComp x with
  | none => rw [e1] at h'; cases h'
  | some t =>
    obtain ⟨ex, gs, scp⟩ := t
    rw [e1] at h'
    obtain ⟨pos, hx⟩ := asComp_eq e1
    match gs, h', hx with
    | [], h', _ => cases h'
    | ⟨_, _, _, _⟩ :: _ :: _, h', _ => cases h'
    | [⟨tx, ix, ifs, as⟩], h', hx =>
      subst hx
      obtain ⟨h0, h6⟩ := and2 h'
      obtain ⟨h0, h5⟩ := and2 h0
      obtain ⟨h0, h4⟩ := and2 h0
      obtain ⟨h0, h3⟩ := and2 h0
      obtain ⟨h0, h2⟩ := and2 h0
      obtain ⟨h0, h1⟩ := and2 h0
      have h0 := of_decide_eq_true h0
      subst h0
      have ok : BlkOk X.N X.env.scope scp (ownOf N tg.slots) := by
        rw [g.eN, g.sc]
        exact blkOk_by h3
      exact ⟨ex, tx, ix, ifs, scp, pos, rfl, sndIt hy it tx ix g h2, ok, fun s H C cl fp => sndT tg tx (g.blk s H C cl fp) h4, fun s H C cl fp => sndC hy cs ifs (g.blk s H C cl fp) h5,
        fun s H C cl fp => (sndE hy e ex (g.blk s H C cl fp) h6).pe, fun x => fold_no h1 x⟩
/-- name = a list just made -/
theorem asgF (hy : Hyp U W L k) (g : Gd W k N sc sc X Z) (gs : Gs X Z) (f : FE) {i : Nat} {t x : Expr} {pos : Pos} (ht : locName N sc i t = true) (hc : (notComp x || (asComp x).isSome) = true) (h : chkF L N f sc sc x = true) :
    PS X (.Assign [t] x pos) (tAsg (RDf W Z (evF (callD U k) f)) (gName i)) := by
  obtain ⟨y, p, rfl, hN, hl, hf⟩ := g.loc ht
  have he := (sndF hy f x g h).1
  by_cases hn : notComp x = true
  · exact ps_set g.nd hN hl he (swaps_no hn) hf
  · have hn' : notComp x = false := by simpa using hn
    rw [hn', Bool.false_or] at hc
    obtain ⟨ct, ec⟩ := Option.isSome_iff_exists.mp hc
    obtain ⟨cx, cg, csc⟩ := ct
    obtain ⟨cp, rfl⟩ := asComp_eq ec
    cases f with
    | comp e tg it cs =>
      obtain ⟨ex, tx, ix, ifs, scp, pos2, hx, hi, ok, h1, h2, h3, h4⟩ := comp_of hy g h
      rw [hx] at he ⊢
      have sw := swaps_comp (elt := ex) (gs := [⟨tx, ix, ifs, 0⟩]) (scope := scp) (pos := pos2) (py := p) (y := y) (l := pos.line) gs.kind
      cases hb : swB X.env.scope y p.line (.ListComp ex [⟨tx, ix, ifs, 0⟩] scp pos2) with
      | false =>
        rw [hb] at sw
        exact ps_set g.nd hN hl he sw hf
      | true =>
        rw [hb] at sw
        obtain ⟨a1, _⟩ := and2 (show (decide (X.env.scope.names.lookup y = some .local) && (p.line == pos2.line) && !(scp.names.any fun (n, k) => n == y && (k == .local || k == .cell))) = true from hb)
        obtain ⟨a1, _⟩ := and2 a1
        refine PS.imp (ps_setLc g.calm g.nd hN (of_decide_eq_true a1) sw hi ok h1 h2 h3 h4) fun D σ H q => ?_
        show tLc _ _ _ _ _ σ H fun x H1 => gName i x σ H1 D.nx
        have q' : RDf W Z (compM (evIt (callD U k) it) tg (evC (callD U k) cs) (evE (callD U k) e)) σ H fun x H1 => gName i x σ H1 D.nx := q
        exact comp_t (ownOf_snd N _) q'
    | ofIt it => cases it <;> cases h
    | _ => cases h
theorem sw_noT {t x : Expr} {env : PySem.Env} (h : (asTup x).isNone = true) (ht : (asTup t).isSome = true) : swappedStores [t] x env = pure none := by
  obtain ⟨es, e⟩ := Option.isSome_iff_exists.mp ht
  obtain ⟨kk, p, rfl⟩ := asTup_eq e
  cases x <;> first | rfl | cases h
theorem sw_fold {t x : Expr} {env : PySem.Env} (h : allFold x = true) (ht : (asTup t).isSome = true) : swappedStores [t] x env = pure none := by
  obtain ⟨es, e⟩ := Option.isSome_iff_exists.mp ht
  obtain ⟨kk, p, rfl⟩ := asTup_eq e
  unfold allFold at h
  cases e2 : asTup x with
  | none => rw [e2] at h; cases h
  | some xs =>
    rw [e2] at h
    have h : xs.all (foldedForSure 8) = true := h
    obtain ⟨k2, p2, rfl⟩ := asTup_eq e2
    unfold swappedStores
    simp only [h, if_true]
    split
    · rfl
    · split
      · rfl
      · split <;> rfl
theorem fm_short {α β : Type} {f : α → Option β} : ∀ {l : List α} {a : α}, a ∈ l → f a = none → (l.filterMap f).length ≠ l.length
  | x :: l, a, hm, hn => by
    have le : (l.filterMap f).length ≤ l.length := List.length_filterMap_le ..
    rcases List.mem_cons.mp hm with e | hm
    · subst e
      rw [List.filterMap_cons_none hn, List.length_cons]
      omega
    · have ih := fm_short hm hn
      rw [List.filterMap_cons, List.length_cons]
      split
      · omega
      · rw [List.length_cons]
        omega
theorem sw_cell {t x : Expr} {env : PySem.Env} (h : someCell env.scope t = true) : swappedStores [t] x env = pure none := by
  unfold someCell at h
  cases e : asTup t with
  | none => rw [e] at h; cases h
  | some ts =>
    rw [e] at h
    obtain ⟨kk, p, rfl⟩ := asTup_eq e
    obtain ⟨a, ha, hb⟩ := List.any_eq_true.mp h
    by_cases hx : (asTup x).isNone = true
    · exact sw_noT hx rfl
    · cases e2 : asTup x with
      | none => rw [e2] at hx; exact absurd rfl hx
      | some xs =>
        obtain ⟨k2, p2, rfl⟩ := asTup_eq e2
        unfold swappedStores
        dsimp only
        split
        · rfl
        · split
          · rfl
          · split
            · rfl
            · rename_i h3
              exfalso
              apply h3
              refine Bool.or_eq_true_iff.mpr (.inl (bne_iff_ne.mpr (fm_short ha ?_)))
              cases e3 : asName a with
              | none => cases a <;> first | rfl | cases e3
              | some y =>
                rw [e3] at hb
                obtain ⟨q, rfl⟩ := asName_eq e3
                have nk : (env.kindOf y == some NameKind.local) = false := by
                  have : ¬ env.scope.names.lookup y = some .local := by simpa using hb
                  exact beq_eq_false_iff_ne.mpr this
                dsimp only
                rw [nk, Bool.false_and, if_neg Bool.false_ne_true]
theorem sw_noS {o i x : Expr} {p : Pos} {env : PySem.Env} : swappedStores [.Subscript o i p] x env = pure none := by
  cases x <;> rfl
theorem sub_asg {o i : Expr} {pos : Pos} {env : PySem.Env} (hi : notSlice i = true) (v : Value) : assign (.Subscript o i pos) env v = (do
      let ov ← holding [v] (eval o env)
      let iv ← holding [v, ov] (eval i env)
      standAt pos
      holding [v, ov, iv] (setItem ov iv v)
      release [v, ov, iv] []) := by
  cases i <;> first | rfl | cases hi
theorem ps_item {o i x : Expr} {p pos : Pos} {te to ti : TE} (ho : PE X o to) (hi : PE X i ti) (he : PE X x te) (hs : notSlice i = true) (hc : notComp x = true) : PS X (.Assign [.Subscript o i p] x pos) (tAsg te (gSub to ti rSetL)) :=
  ps_asg he (pg_sub ho hi set_list (sub_asg hs)) (by unfold swapsWithSole; exact swaps_no hc) sw_noS rfl
def isStar : Expr → Bool
  | .Starred .. => true
  | _ => false
theorem isStar_no {e : Expr} (h : notStar e = true) : isStar e = false := by cases e <;> first | rfl | cases h
theorem sw_cell2 {env : PySem.Env} {x y : Str} {px py pt pt2 : Pos} {kt k2 : Nat} {a b : Expr} (hx : env.scope.names.lookup x ≠ some .local ∨ env.scope.names.lookup y ≠ some .local) :
    swappedStores [.Tuple [.Name x px, .Name y py] kt pt] (.Tuple [a, b] k2 pt2) env = pure none := by
  have kx : (env.kindOf x == some .local) = false ∨ (env.kindOf y == some .local) = false := by
    rcases hx with h | h
    · exact .inl (beq_eq_false_iff_ne.mpr h)
    · exact .inr (beq_eq_false_iff_ne.mpr h)
  unfold swappedStores
  rcases kx with kk | kk
  · simp only [kk, Expr.pos, List.filterMap_cons, List.filterMap_nil, Bool.false_and, Bool.false_eq_true, if_false]
    repeat' split
    all_goals first | rfl | (simp_all; done) | skip
  · simp only [kk, Expr.pos, List.filterMap_cons, List.filterMap_nil, Bool.false_and, Bool.false_eq_true, if_false]
    repeat' split
    all_goals first | rfl | (simp_all; done) | skip
theorem sw_two {env : PySem.Env} {x y : Str} {px py pt pt2 : Pos} {kt k2 : Nat} {a b : Expr} (hk : env.scope.kind = .function) (hx : env.scope.names.lookup x = some .local) (hy : env.scope.names.lookup y = some .local) (hl : py.line = px.line) (hxy : x ≠ y)
    (ns : [a, b].all notStar = true) (nf : [a, b].all (foldedForSure 8) = false) (nc : [a, b].all (constantsAlone 8) = false) :
    swappedStores [.Tuple [.Name x px, .Name y py] kt pt] (.Tuple [a, b] k2 pt2) env = pure (some [x, y]) := by
  have hb := blk_fn hk
  have kx : env.kindOf x = some .local := hx
  have ky : env.kindOf y = some .local := hy
  obtain ⟨n1, n2⟩ := and2 (show (notStar a && (notStar b && true)) = true from ns)
  obtain ⟨n2, _⟩ := and2 n2
  have hxy' : (y == x) = false := beq_eq_false_iff_ne.mpr (Ne.symm hxy)
  unfold swappedStores
  simp only [nf, nc, hb, kx, ky, hl, Expr.pos, List.filterMap_cons, List.filterMap_nil, List.length_cons, List.length_nil, List.head?_cons, Option.map_some, Option.getD_some, beq_self_eq_true, Bool.and_self, if_true, List.eraseDups_cons, List.eraseDups_nil, List.filter_cons, List.filter_nil, hxy', Bool.not_false]
  generalize hf : List.any [a, b] _ = z
  have hz : z = false := by
    rw [← hf]
    show (isStar a || (isStar b || false)) = false
    rw [isStar_no n1, isStar_no n2]
    rfl
  subst hz
  rfl
theorem sw_three {env : PySem.Env} {x y z : Str} {px py pz pt pt2 : Pos} {kt k2 : Nat} {a b c : Expr} (hk : env.scope.kind = .function) (hx : env.scope.names.lookup x = some .local) (hy : env.scope.names.lookup y = some .local) (hz : env.scope.names.lookup z = some .local)
    (hl : py.line = px.line) (hl2 : pz.line = px.line) (hxy : x ≠ y) (hxz : x ≠ z) (hyz : y ≠ z)
    (ns : [a, b, c].all notStar = true) (nf : [a, b, c].all (foldedForSure 8) = false) (nc : [a, b, c].all (constantsAlone 8) = false) :
    swappedStores [.Tuple [.Name x px, .Name y py, .Name z pz] kt pt] (.Tuple [a, b, c] k2 pt2) env = pure (some [x, y, z]) := by
  have hb := blk_fn hk
  have kx : env.kindOf x = some .local := hx
  have ky : env.kindOf y = some .local := hy
  have kz : env.kindOf z = some .local := hz
  obtain ⟨n1, n2⟩ := and2 (show (notStar a && (notStar b && (notStar c && true))) = true from ns)
  obtain ⟨n2, n3⟩ := and2 n2
  obtain ⟨n3, _⟩ := and2 n3
  have h1 : (y == x) = false := beq_eq_false_iff_ne.mpr (Ne.symm hxy)
  have h2 : (z == x) = false := beq_eq_false_iff_ne.mpr (Ne.symm hxz)
  have h3 : (z == y) = false := beq_eq_false_iff_ne.mpr (Ne.symm hyz)
  unfold swappedStores
  simp only [nf, nc, hb, kx, ky, kz, hl, hl2, Expr.pos, List.filterMap_cons, List.filterMap_nil, List.length_cons, List.length_nil, List.head?_cons, Option.map_some, Option.getD_some, beq_self_eq_true, Bool.and_self, if_true, List.eraseDups_cons, List.eraseDups_nil, List.filter_cons, List.filter_nil, h1, h2, h3, Bool.not_false]
  generalize hf : List.any [a, b, c] _ = w
  have hw : w = false := by
    rw [← hf]
    show (isStar a || (isStar b || (isStar c || false))) = false
    rw [isStar_no n1, isStar_no n2, isStar_no n3]
    rfl
  subst hw
  rfl
theorem evEs_len2 {cf : Nat → List Val → Hs → Out Val} {es : List E} {n : Nat} (hs : es.all (fun e => !isStarE e) = true) (h : es.length = n) : ∀ env hh vs h', evEs cf es env hh = .ok vs h' → vs.length = n := fun env hh vs h' q => by rw [evEs_len es env hh vs h' hs q, h]
theorem attr_name {y n : Str} {p : Pos} {env : PySem.Env} : attributeBase (.Name y p) n env (eval (.Name y p) env) = eval (.Name y p) env := by rfl
theorem bop_add {x y z : Val} (h : augop .add x y = some z) : ∃ i j, x = .int i ∧ y = .int j ∧ z = .int (i + j) := by
  cases x <;> cases y <;> cases h
  exact ⟨_, _, rfl, rfl, rfl⟩
theorem bop_sub {x y z : Val} (h : augop .sub x y = some z) : ∃ i j, x = .int i ∧ y = .int j ∧ z = .int (i - j) := by
  cases x <;> cases y <;> cases h
  exact ⟨_, _, rfl, rfl, rfl⟩
theorem sndP (hy : Hyp U W L k) (g : Gd W k N sc sc X Z) : ∀ (p : PItem) (x : Expr), chkP L N p sc x = true → PE X x (RDp W Z (evP (callD U k) p))
  | .v e, x, h => PE.imp (sndE hy e x g h).pe fun σ H Q q => rdp_v q
  | .o f, x, h => PE.imp (sndF hy f x g h).1 fun σ H Q q => rdp_o q
theorem evPs2 {cf : Nat → List Val → Hs → Out Val} {p q : PItem} {is : List Nat} {env : Env} {h : Hs} : evS cf (.parO is [p, q]) env h = (evP cf p env h).toS fun s1 h => (evP cf q env h).toS fun s2 h => .ok .nxt (setSl env is [s1, s2]) h := by
  show ((evP cf p env h).bind fun s h => ((evP cf q env h).bind fun t h => .ok [t] h).bind fun r h => .ok (s :: r) h).toS _ = _
  cases evP cf p env h with
  | ok s1 h1 =>
    show (((evP cf q env h1).bind fun t h => .ok [t] h).bind fun r h => .ok (s1 :: r) h).toS _ = (evP cf q env h1).toS _
    cases evP cf q env h1 <;> rfl
  | exc _ _ _ => rfl
  | bad => rfl
theorem evPs3 {cf : Nat → List Val → Hs → Out Val} {p q r : PItem} {is : List Nat} {env : Env} {h : Hs} : evS cf (.parO is [p, q, r]) env h = (evP cf p env h).toS fun s1 h => (evP cf q env h).toS fun s2 h => (evP cf r env h).toS fun s3 h => .ok .nxt (setSl env is [s1, s2, s3]) h := by
  show ((evP cf p env h).bind fun s h => ((evP cf q env h).bind fun t h => ((evP cf r env h).bind fun u h => .ok [u] h).bind fun r h => .ok (t :: r) h).bind fun r h => .ok (s :: r) h).toS _ = _
  cases evP cf p env h with
  | ok s1 h1 =>
    show (((evP cf q env h1).bind fun t h => ((evP cf r env h).bind fun u h => .ok [u] h).bind fun r h => .ok (t :: r) h).bind fun r h => .ok (s1 :: r) h).toS _ = (evP cf q env h1).toS _
    cases evP cf q env h1 with
    | ok s2 h2 =>
      show ((((evP cf r env h2).bind fun u h => .ok [u] h).bind fun r h => .ok (s2 :: r) h).bind fun r h => .ok (s1 :: r) h).toS _ = (evP cf r env h2).toS _
      cases evP cf r env h2 <;> rfl
    | exc _ _ _ => rfl
    | bad => rfl
  | exc _ _ _ => rfl
  | bad => rfl
theorem evSs_wth {cf : Nat → List Val → Hs → Out Val} {i d kk v : Nat} : evSs cf [.wthR i d kk v] = fun env h => (ofOpt (varV env d) h).toS fun x h => (ofOpt (varV env v) h).toS fun z h => (ofOpt (varV env kk) h).toS fun y h => (ofOpt (withV x y z) h).toS fun w h => if decide (i < env.length) then .ok (.ret w) env h else .bad := by
  funext env h
  show OutS.bind ((ofOpt (varV env d) h).toS fun x h => (ofOpt (varV env v) h).toS fun z h => (ofOpt (varV env kk) h).toS fun y h => (ofOpt (withV x y z) h).toS fun w h => if decide (i < env.length) then .ok (.ret w) env h else .bad) _ = _
  cases varV env d with
  | none => rfl
  | some x =>
    cases varV env v with
    | none => rfl
    | some z =>
      cases varV env kk with
      | none => rfl
      | some y =>
        cases hw : withV x y z with
        | none => simp [ofOpt, hw]
        | some w => by_cases hh : i < env.length <;> simp [ofOpt, hw, hh]
theorem isDictOf_eq {d : Nat} {x : Expr} (h : isDictOf N sc d x = true) : ∃ c1 c2 o ap cp p1 p2, x = .Call c1 [.Call c2 [.Call (.Attribute o "items" ap) [] [] cp] [] p2] [] p1 ∧ gnameIs sc "dict" c1 = true ∧ gnameIs sc "list" c2 = true ∧ (ap.endLine == cp.line) = true ∧ nameIs N sc d o = true := by
  unfold isDictOf at h
  cases e1 : asCall x with
  | none => rw [e1] at h; cases h
  | some t =>
    obtain ⟨c1, xs, ks⟩ := t
    rw [e1] at h
    obtain ⟨p1, hx⟩ := asCall_eq e1
    match xs, h, hx with
    | [], h, _ => cases h
    | _ :: _ :: _, h, _ => cases h
    | [y], h, hx =>
      obtain ⟨h0, h2⟩ := and2 h
      obtain ⟨h0, h1⟩ := and2 h0
      cases ks with
      | cons _ _ => cases h0
      | nil =>
        cases e2 : asCall y with
        | none => rw [e2] at h2; cases h2
        | some t =>
          obtain ⟨c2, ys, ks2⟩ := t
          rw [e2] at h2
          obtain ⟨p2, hy⟩ := asCall_eq e2
          match ys, h2, hy with
          | [], h2, _ => cases h2
          | _ :: _ :: _, h2, _ => cases h2
          | [z], h2, hy =>
            obtain ⟨h3, h5⟩ := and2 h2
            obtain ⟨h3, h4⟩ := and2 h3
            cases ks2 with
            | cons _ _ => cases h3
            | nil =>
              cases e3 : asMeth z with
              | none => rw [e3] at h5; cases h5
              | some t =>
                obtain ⟨o, n, ap, es, ks3, cp⟩ := t
                rw [e3] at h5
                have hz := asMeth_eq e3
                obtain ⟨h6, h10⟩ := and2 h5
                obtain ⟨h6, h9⟩ := and2 h6
                obtain ⟨h6, h8⟩ := and2 h6
                obtain ⟨h6, h7⟩ := and2 h6
                have h8 := of_decide_eq_true h8
                subst h8
                cases es with
                | cons _ _ => cases h6
                | nil =>
                  cases ks3 with
                  | cons _ _ => cases h7
                  | nil => exact ⟨c1, c2, o, ap, cp, p1, p2, by rw [hx, hy, hz], h1, h4, h9, h10⟩
theorem boot_dict : bootBuiltins "dict" = some (.type "dict") := by decide +kernel
theorem sndW (hy : Hyp U W L k) (g : Gd W k N sc sc X Z) (gs : Gs X Z) {i d kk v : Nat} {sts : List Stmt} (h : chkW N sc i d kk v sts = true) : PSs X sts (RS W Z (evSs (callD U k) [.wthR i d kk v])) := by
  match sts, h with
  | [], h => cases h
  | [_], h => cases h
  | [_, _], h => cases h
  | _ :: _ :: _ :: _ :: _, h => cases h
  | [s1, s2, s3], h =>
    obtain ⟨h0, w3⟩ := and2 (show (_ && _) = true from h)
    obtain ⟨h0, w2⟩ := and2 h0
    obtain ⟨h0, w1⟩ := and2 h0
    obtain ⟨h0, hv⟩ := and2 h0
    have hk := of_decide_eq_true h0
    have hv := of_decide_eq_true hv
    cases e1 : asAssign s1 with
    | none => rw [e1] at w1; cases w1
    | some t =>
      obtain ⟨t1, x1, pos1⟩ := t
      rw [e1] at w1
      have es1 := asAssign_eq e1
      subst es1
      obtain ⟨a1, a2⟩ := and2 w1
      obtain ⟨c1, c2, o, ap, cp, q1, q2, rfl, g1, g2, hl, ho⟩ := isDictOf_eq a2
      cases e2 : asAssign s2 with
      | none => rw [e2] at w2; cases w2
      | some t =>
        obtain ⟨t2, x2, pos2⟩ := t
        rw [e2] at w2
        have es2 := asAssign_eq e2
        subst es2
        obtain ⟨b1, b2⟩ := and2 w2
        cases e3 : asSub t2 with
        | none => rw [e3] at b2; cases b2
        | some t =>
          obtain ⟨p, q⟩ := t
          rw [e3] at b2
          obtain ⟨b2, b3⟩ := and2 b2
          obtain ⟨sp, rfl⟩ := asSub_eq e3
          cases e4 : asRet s3 with
          | none => rw [e4] at w3; cases w3
          | some t =>
            obtain ⟨x3, pos3⟩ := t
            rw [e4] at w3
            cases x3 with
            | none => cases w3
            | some x3 =>
              have es3 := asRet_eq e4
              subst es3
              obtain ⟨y, py, rfl, hN, hloc, hf⟩ := g.loc a1
              obtain ⟨z1, u1, rfl, n1, v1, d1, f1⟩ := g.vis ho
              obtain ⟨z2, u2, rfl, n2, v2, d2, f2⟩ := g.vis b1
              obtain ⟨z3, u3, rfl, n3, v3, d3, f3⟩ := g.vis b2
              obtain ⟨z4, u4, rfl, n4, v4, d4, f4⟩ := g.vis b3
              obtain ⟨z5, u5, rfl, n5, v5, d5, f5⟩ := g.vis w3
              obtain ⟨r1, rfl, gl1, db1⟩ := g.gl g1
              obtain ⟨r2, rfl, gl2, db2⟩ := g.gl g2
              have eK := g.eK
              refine PSs.imp (pss_cons (ps_set g.nd hN hloc (pe_callTy (call_dictP g.calm) gl1 (g.mgN hy (by decide +kernel)) boot_dict (pa_cons (LiI.pe_listItems g.calm (pe_var n1 v1 d1 f1) gl2 (g.mgN hy (by decide +kernel)) boot_L rfl hl rfl) pa_nil (star_cons rfl)) (by decide) db1 (star_cons rfl) (star_plain rfl)) (swaps_no rfl) hf)
                (pss_cons (ps_dput (Nat.lt_of_le_of_lt (by omega) g.units) (pe_var n3 v3 d3 f3) (pe_var n4 v4 d4 f4) (pe_var n2 v2 d2 f2) (swaps_no rfl)) (pss_one (ps_ret (pe_var n5 v5 d5 f5))))) fun D σ H q => ?_
              rw [eK]
              exact s_wth hk hv (by rw [← evSs_wth]; exact q)
mutual
theorem sndS (hy : Hyp U W L k) (g : Gd W k N sc sc X Z) (gs : Gs X Z) : ∀ (s : S) (st : Stmt), chkS L N s sc st = true → PS X st (RS W Z (evS (callD U k) s))
  | .set i e, st, h => by
    have h' : (match asAssign st with
      | some (t, x, _) => !isStarE e && locName N sc i t && (notComp x || (asComp x).isSome) && chkE L N e sc sc x
      | none => false) = true := h
    cases e1 : asAssign st with
    | none => rw [e1] at h'; cases h'
    | some q =>
      obtain ⟨t, x, pos⟩ := q
      rw [e1] at h'
      have est := asAssign_eq e1
      subst est
      obtain ⟨h0, h2⟩ := and2 h'
      obtain ⟨h0, h1⟩ := and2 h0
      obtain ⟨hst, h0⟩ := and2 h0
      by_cases hn : notComp x = true
      · obtain ⟨y, p, rfl, hN, hl, hf⟩ := g.loc h0
        exact PS.imp (ps_set g.nd hN hl (sndE hy e x g h2).pe (swaps_no hn) hf) fun D σ H q => s_set gs.blind q
      · cases e with
        | fr f => exact PS.imp (asgF hy g gs f h0 h1 h2) fun D σ H q => rd_freeze (s_set gs.blind q)
        | mk f => exact PS.imp (asgF hy g gs f h0 h1 h2) fun D σ H q => rd_mk (s_set gs.blind q)
        | star _ => cases hst
        | _ =>
          have hn' : notComp x = false := by simpa using hn
          rw [hn', Bool.false_or] at h1
          obtain ⟨ct, ec⟩ := Option.isSome_iff_exists.mp h1
          obtain ⟨cx, cg, csc⟩ := ct
          obtain ⟨cp, rfl⟩ := asComp_eq ec
          cases h2
  | .tset tg e, st, h => by
    have h' : (match asAssign st with
      | some (t, x, _) => (asTup t).isSome && ((asTup x).isNone || allFold x || someCell sc t) && notComp x && chkT N sc tg t && chkE L N e sc sc x
      | none => false) = true := h
    cases e1 : asAssign st with
    | none => rw [e1] at h'; cases h'
    | some q =>
      obtain ⟨t, x, pos⟩ := q
      rw [e1] at h'
      have est := asAssign_eq e1
      subst est
      obtain ⟨h0, h4⟩ := and2 h'
      obtain ⟨h0, h3⟩ := and2 h0
      obtain ⟨h0, h2⟩ := and2 h0
      obtain ⟨h0, h1⟩ := and2 h0
      have h1e : (assignEach [t] X.env).map (·.2) = [assign t X.env] := by
        obtain ⟨es, e⟩ := Option.isSome_iff_exists.mp h0
        obtain ⟨kk, p, rfl⟩ := asTup_eq e
        rfl
      have hw : swappedStores [t] x X.env = pure none := by
        rcases Bool.or_eq_true_iff.mp h1 with h1 | h1
        · rcases Bool.or_eq_true_iff.mp h1 with h1 | h1
          · exact sw_noT h1 h0
          · exact sw_fold h1 h0
        · exact sw_cell (by rw [g.sc]; exact h1)
      exact PS.imp (ps_asg (sndE hy e x g h4).pe (sndT tg t g h3) (by unfold swapsWithSole; exact swaps_no h2) hw h1e) fun D σ H q => s_tset gs.blind q
  | .par is es, st, h => by
    have h' : (match asAssign st with
      | some (t, x, _) => match asTup t, asTup x with
        | some ts, some xs => xs.all notStar && !(xs.all (foldedForSure 8)) && !(xs.all (constantsAlone 8)) && chkEs L N es sc sc xs && (match (generalizing := false) is, ts with
          | [i, j], [a, b] => plainName N sc a.pos.line i a && plainName N sc a.pos.line j b && decide (i ≠ j) && decide (xs.length = 2)
          | [i, j, k], [a, b, c] => plainName N sc a.pos.line i a && plainName N sc a.pos.line j b && plainName N sc a.pos.line k c && decide (i ≠ j) && decide (i ≠ k) && decide (j ≠ k) && decide (xs.length = 3)
          | _, _ => false)
        | _, _ => false
      | none => false) = true := h
    cases e1 : asAssign st with
    | none => rw [e1] at h'; cases h'
    | some q =>
      obtain ⟨t, x, pos⟩ := q
      rw [e1] at h'
      have est := asAssign_eq e1
      subst est
      dsimp only at h'
      cases e2 : asTup t with
      | none => rw [e2] at h'; cases h'
      | some ts =>
        cases e3 : asTup x with
        | none => rw [e2, e3] at h'; cases h'
        | some xs =>
          rw [e2, e3] at h'
          obtain ⟨k1, p1, rfl⟩ := asTup_eq e2
          obtain ⟨k2, p2, rfl⟩ := asTup_eq e3
          obtain ⟨h0, h4⟩ := and2 h'
          obtain ⟨h0, h3⟩ := and2 h0
          obtain ⟨h0, h2⟩ := and2 h0
          obtain ⟨h0, h1⟩ := and2 h0
          have f1 : xs.all (foldedForSure 8) = false := by simpa using h1
          have f2 : xs.all (constantsAlone 8) = false := by simpa using h2
          have l := chkEs_len es sc sc xs h3
          match is, ts, h4 with
          | [i, j], [a, b], h4 =>
            obtain ⟨q0, q4⟩ := and2 h4
            obtain ⟨q0, q3⟩ := and2 q0
            obtain ⟨q0, q2⟩ := and2 q0
            have hij : i ≠ j := of_decide_eq_true q3
            have hl : xs.length = 2 := of_decide_eq_true q4
            obtain ⟨y, py, rfl, n1, l1, ln1⟩ := g.plain q0
            obtain ⟨z, pz, rfl, n2, l2, ln2⟩ := g.plain q2
            have hyz : y ≠ z := fun ez => hij (by
              rw [ez] at n1
              have d1 := List.getElem?_eq_some_iff.mp n1
              have d2 := List.getElem?_eq_some_iff.mp n2
              exact (List.getElem_inj g.nd).mp (d1.2.trans d2.2.symm))
            match xs, hl, h0, f1, f2, h3, l with
            | [a, b], _, h0, f1, f2, h3, l =>
              exact PS.imp (ps_par g.calm g.nd n1 n2 hij l1 l2 (sndEs hy es [a, b] g h3) (sw_two gs.kind l1 l2 ln2 hyz h0 f1 f2) (by unfold swapsWithSole; exact swaps_no rfl)) fun D σ H q => s_par2 gs.blind (evEs_len2 (stars_no es sc sc _ h0 h3) l.symm) q
          | [i, j, kk], [a, b, c], h4 =>
            obtain ⟨q0, q7⟩ := and2 h4
            obtain ⟨q0, q6⟩ := and2 q0
            obtain ⟨q0, q5⟩ := and2 q0
            obtain ⟨q0, q4⟩ := and2 q0
            obtain ⟨q0, q3⟩ := and2 q0
            obtain ⟨q0, q2⟩ := and2 q0
            have hij : i ≠ j := of_decide_eq_true q4
            have hik : i ≠ kk := of_decide_eq_true q5
            have hjk : j ≠ kk := of_decide_eq_true q6
            have hl : xs.length = 3 := of_decide_eq_true q7
            obtain ⟨y, py, rfl, n1, l1, ln1⟩ := g.plain q0
            obtain ⟨z, pz, rfl, n2, l2, ln2⟩ := g.plain q2
            obtain ⟨w, pw, rfl, n3, l3, ln3⟩ := g.plain q3
            have df : ∀ {u v : Nat} {y z : Str}, u ≠ v → X.N[u]? = some y → X.N[v]? = some z → y ≠ z := fun {u v y z} huv n1 n2 ez => huv (by
              rw [ez] at n1
              have d1 := List.getElem?_eq_some_iff.mp n1
              have d2 := List.getElem?_eq_some_iff.mp n2
              exact (List.getElem_inj g.nd).mp (d1.2.trans d2.2.symm))
            match xs, hl, h0, f1, f2, h3, l with
            | [a, b, c], _, h0, f1, f2, h3, l =>
              exact PS.imp (ps_par3 g.calm g.nd n1 n2 n3 hij hik hjk l1 l2 l3 (sndEs hy es [a, b, c] g h3) (sw_three gs.kind l1 l2 l3 ln2 ln3 (df hij n1 n2) (df hik n1 n3) (df hjk n2 n3) h0 f1 f2) (by unfold swapsWithSole; exact swaps_no rfl)) fun D σ H q => s_par3 gs.blind (evEs_len2 (stars_no es sc sc _ h0 h3) l.symm) q
          | [], _, h4 => cases h4
          | [_], _, h4 => cases h4
          | _ :: _ :: _ :: _ :: _, _, h4 => cases h4
          | [_, _], [], h4 => cases h4
          | [_, _], [_], h4 => cases h4
          | [_, _], _ :: _ :: _ :: _, h4 => cases h4
          | [_, _, _], [], h4 => cases h4
          | [_, _, _], [_], h4 => cases h4
          | [_, _, _], [_, _], h4 => cases h4
          | [_, _, _], _ :: _ :: _ :: _ :: _, h4 => cases h4
  | .setD i kk vv tg it, st, h => by
    have h' : (match asAssign st with
      | some (t, x, _) => locName N sc i t && chkE L N (.dcomp kk vv tg it) sc sc x
      | none => false) = true := h
    cases e1 : asAssign st with
    | none => rw [e1] at h'; cases h'
    | some q =>
      obtain ⟨t, x, spos⟩ := q
      rw [e1] at h'
      have est := asAssign_eq e1
      subst est
      obtain ⟨h0, h1⟩ := and2 h'
      obtain ⟨y, p, rfl, hN, hl, hf⟩ := g.loc h0
      have w' : (match asDictComp x with
        | some (kx, vx, gs, scp) => match gs with
          | [⟨tx, ix, ifs, as⟩] => decide (as = 0) && ifs.isEmpty && notSet ix && chkIt L N it tx sc sc ix && blkC N sc scp (ownOf N tg.slots) && chkT N scp tg tx && chkE L N kk (relS scp sc) scp kx && chkE L N vv (relS scp sc) scp vx
          | _ => false
        | none => false) = true := h1
      have se := sndE hy (.dcomp kk vv tg it) x g h1
      cases e2 : asDictComp x with
      | none => rw [e2] at w'; cases w'
      | some t =>
        obtain ⟨kx, vx, gs', scp⟩ := t
        rw [e2] at w'
        obtain ⟨pos2, hy2⟩ := asDictComp_eq e2
        match gs', w', hy2 with
        | [], h2, _ => cases h2
        | ⟨_, _, _, _⟩ :: _ :: _, h2, _ => cases h2
        | [⟨tx, ix, ifs, as⟩], h2, hy2 =>
          subst hy2
          obtain ⟨g0, g7⟩ := and2 h2
          obtain ⟨g0, g6⟩ := and2 g0
          obtain ⟨g0, g5⟩ := and2 g0
          obtain ⟨g0, g4⟩ := and2 g0
          obtain ⟨g0, g3⟩ := and2 g0
          obtain ⟨g0, g2⟩ := and2 g0
          obtain ⟨g0, g1⟩ := and2 g0
          have g0 := of_decide_eq_true g0
          subst g0
          cases ifs with
          | cons _ _ => cases g1
          | nil =>
            have ok : BlkOk X.N X.env.scope scp (ownOf N tg.slots) := by
              rw [g.eN, g.sc]
              exact blkOk_by g4
            have sw := swaps_dcomp (kx := kx) (vx := vx) (gs := [⟨tx, ix, [], 0⟩]) (scope := scp) (pos := pos2) (py := p) (y := y) (l := spos.line) gs.kind
            cases hb : swD X.env.scope y p.line (.DictComp kx vx [⟨tx, ix, [], 0⟩] scp pos2) with
            | false =>
              rw [hb] at sw
              exact PS.imp (ps_set g.nd hN hl se.pe sw hf) fun D σ H q => s_set gs.blind q
            | true =>
              rw [hb] at sw
              obtain ⟨a1, _⟩ := and2 (show (decide (X.env.scope.names.lookup y = some .local) && (p.line == pos2.line) && !(scp.names.any fun (n, k) => n == y && (k == .local || k == .cell))) = true from hb)
              obtain ⟨a1, _⟩ := and2 a1
              refine PS.imp (ps_setDc (tt := tYes) g.calm g.nd hN (of_decide_eq_true a1) sw (sndIt hy it tx ix g g3) ok (fun s H C cl fp => sndT tg tx (g.blk s H C cl fp) g5) (fun s H C cl fp => pts_nil) (fun s H C cl fp => (sndE hy kk kx (g.blk s H C cl fp) g6).pe) (fun s H C cl fp => (sndE hy vv vx (g.blk s H C cl fp) g7).pe) (fun x => fold_no g2 x)) fun D σ H q => ?_
              show tDc _ _ _ _ _ _ σ H fun x H1 => gName i x σ H1 D.nx
              have q' : RD W Z (dcM (evIt (callD U k) it) tg (evE (callD U k) kk) (evE (callD U k) vv)) σ H fun x H1 => gName i x σ H1 D.nx := s_set gs.blind q
              exact dc_t (ownOf_snd N _) q'
  | .parO is ps, st, h => by
    have h' : (match asAssign st with
      | some (t, x, _) => match asTup t, asTup x with
        | some ts, some xs => xs.all notStar && !(xs.all (foldedForSure 8)) && !(xs.all (constantsAlone 8)) && (match (generalizing := false) is, ts, ps, xs with
          | [i, j], [a, b], [p, q], [u, v] => (plainName N sc a.pos.line i a && plainName N sc a.pos.line j b || cellTwo N sc i j a b) && decide (i ≠ j) && chkP L N p sc u && chkP L N q sc v
          | [i, j, k], [a, b, c], [p, q, r], [u, v, w] => plainName N sc a.pos.line i a && plainName N sc a.pos.line j b && plainName N sc a.pos.line k c && decide (i ≠ j) && decide (i ≠ k) && decide (j ≠ k) && chkP L N p sc u && chkP L N q sc v && chkP L N r sc w
          | _, _, _, _ => false)
        | _, _ => false
      | none => false) = true := h
    cases e1 : asAssign st with
    | none => rw [e1] at h'; cases h'
    | some q =>
      obtain ⟨t, x, pos⟩ := q
      rw [e1] at h'
      have est := asAssign_eq e1
      subst est
      dsimp only at h'
      cases e2 : asTup t with
      | none => rw [e2] at h'; cases h'
      | some ts =>
        cases e3 : asTup x with
        | none => rw [e2, e3] at h'; cases h'
        | some xs =>
          rw [e2, e3] at h'
          obtain ⟨k1, p1, rfl⟩ := asTup_eq e2
          obtain ⟨k2, p2, rfl⟩ := asTup_eq e3
          obtain ⟨h0, h4⟩ := and2 h'
          obtain ⟨h0, h2⟩ := and2 h0
          obtain ⟨h0, h1⟩ := and2 h0
          have f1 : xs.all (foldedForSure 8) = false := by simpa using h1
          have f2 : xs.all (constantsAlone 8) = false := by simpa using h2
          have df : ∀ {u v : Nat} {y z : Str}, u ≠ v → X.N[u]? = some y → X.N[v]? = some z → y ≠ z := fun {u v y z} huv n1 n2 ez => huv (by
            rw [ez] at n1
            have d1 := List.getElem?_eq_some_iff.mp n1
            have d2 := List.getElem?_eq_some_iff.mp n2
            exact (List.getElem_inj g.nd).mp (d1.2.trans d2.2.symm))
          match is, ts, ps, xs, h4, h0, f1, f2 with
          | [i, j], [a, b], [p, q], [u, v], h4, h0, f1, f2 =>
            obtain ⟨q0, q5⟩ := and2 h4
            obtain ⟨q0, q4⟩ := and2 q0
            obtain ⟨q0, q3⟩ := and2 q0
            have hij : i ≠ j := of_decide_eq_true q3
            obtain ⟨u1, u2⟩ := and2 (show (notStar u && [v].all notStar) = true from h0)
            obtain ⟨u3, _⟩ := and2 (show (notStar v && [].all notStar) = true from u2)
            have pa := pa_cons (sndP hy g p u q4) (pa_cons (sndP hy g q v q5) pa_nil (star_cons u3)) (star_cons u1)
            rcases (Bool.or_eq_true _ _).mp q0 with q0 | q0
            rotate_left
            · obtain ⟨c0, c3⟩ := and2 (show (locName N sc i a && locName N sc j b && (notPlain sc a || notPlain sc b)) = true from q0)
              obtain ⟨c1, c2⟩ := and2 c0
              obtain ⟨y, py, rfl, n1, l1, f1'⟩ := g.locN c1
              obtain ⟨z, pz, rfl, n2, l2, f2'⟩ := g.locN c2
              have c3' : X.env.scope.names.lookup y ≠ some .local ∨ X.env.scope.names.lookup z ≠ some .local := by
                rw [g.sc]
                rcases (Bool.or_eq_true _ _).mp c3 with c | c
                · exact .inl (of_decide_eq_true c)
                · exact .inr (of_decide_eq_true c)
              exact PS.imp (ps_asg (pe_tup pa) (pg_tup (n := 2) g.calm (pgs_cons (pg_name g.nd n1 l1 f1') (pgs_cons (pg_name g.nd n2 l2 f2') pgs_nil))) (by unfold swapsWithSole; exact swaps_no rfl) (sw_cell2 c3') rfl) fun D σ H qq => s_parP2t gs.blind (by
                have e : (fun env h => (evP (callD U k) p env h).toS fun s1 h => (evP (callD U k) q env h).toS fun s2 h => .ok .nxt (setSl env [i, j] [s1, s2]) h) = evS (callD U k) (.parO [i, j] [p, q]) := funext fun env => funext fun h => evPs2.symm
                rw [e]
                exact qq)
            obtain ⟨q0, q2⟩ := and2 q0
            obtain ⟨y, py, rfl, n1, l1, ln1⟩ := g.plain q0
            obtain ⟨z, pz, rfl, n2, l2, ln2⟩ := g.plain q2
            exact PS.imp (ps_par g.calm g.nd n1 n2 hij l1 l2 pa (sw_two gs.kind l1 l2 ln2 (df hij n1 n2) h0 f1 f2) (by unfold swapsWithSole; exact swaps_no rfl)) fun D σ H qq => s_parP2 gs.blind (by
              have e : (fun env h => (evP (callD U k) p env h).toS fun s1 h => (evP (callD U k) q env h).toS fun s2 h => .ok .nxt (setSl env [i, j] [s1, s2]) h) = evS (callD U k) (.parO [i, j] [p, q]) := funext fun env => funext fun h => evPs2.symm
              rw [e]
              exact qq)
          | [i, j, kk], [a, b, c], [p, q, r], [u, v, w], h4, h0, f1, f2 =>
            obtain ⟨q0, q9⟩ := and2 h4
            obtain ⟨q0, q8⟩ := and2 q0
            obtain ⟨q0, q7⟩ := and2 q0
            obtain ⟨q0, q6⟩ := and2 q0
            obtain ⟨q0, q5⟩ := and2 q0
            obtain ⟨q0, q4⟩ := and2 q0
            obtain ⟨q0, q3⟩ := and2 q0
            obtain ⟨q0, q2⟩ := and2 q0
            have hij : i ≠ j := of_decide_eq_true q4
            have hik : i ≠ kk := of_decide_eq_true q5
            have hjk : j ≠ kk := of_decide_eq_true q6
            obtain ⟨y, py, rfl, n1, l1, ln1⟩ := g.plain q0
            obtain ⟨z, pz, rfl, n2, l2, ln2⟩ := g.plain q2
            obtain ⟨o, po, rfl, n3, l3, ln3⟩ := g.plain q3
            obtain ⟨u1, u2⟩ := and2 (show (notStar u && [v, w].all notStar) = true from h0)
            obtain ⟨u3, u4⟩ := and2 (show (notStar v && [w].all notStar) = true from u2)
            obtain ⟨u5, _⟩ := and2 (show (notStar w && [].all notStar) = true from u4)
            have pa := pa_cons (sndP hy g p u q7) (pa_cons (sndP hy g q v q8) (pa_cons (sndP hy g r w q9) pa_nil (star_cons u5)) (star_cons u3)) (star_cons u1)
            exact PS.imp (ps_par3 g.calm g.nd n1 n2 n3 hij hik hjk l1 l2 l3 pa (sw_three gs.kind l1 l2 l3 ln2 ln3 (df hij n1 n2) (df hik n1 n3) (df hjk n2 n3) h0 f1 f2) (by unfold swapsWithSole; exact swaps_no rfl)) fun D σ H qq => s_parP3 gs.blind (by
              have e : (fun env h => (evP (callD U k) p env h).toS fun s1 h => (evP (callD U k) q env h).toS fun s2 h => (evP (callD U k) r env h).toS fun s3 h => .ok .nxt (setSl env [i, j, kk] [s1, s2, s3]) h) = evS (callD U k) (.parO [i, j, kk] [p, q, r]) := funext fun env => funext fun h => evPs3.symm
              rw [e]
              exact qq)
  | .unK is y ns, st, h => by
    have h' : (match asAssign st with
      | some (t, x, _) => match asTup t with
        | some ts => gnameIs sc y x && decide (L.gt y = some ns) && decide (is.length = ns.length) && ts.all notStar && chkTs N sc (is.map Tg.v) ts
        | none => false
      | none => false) = true := h
    cases e1 : asAssign st with
    | none => rw [e1] at h'; cases h'
    | some q =>
      obtain ⟨t, x, pos⟩ := q
      rw [e1] at h'
      have est := asAssign_eq e1
      subst est
      dsimp only at h'
      cases e2 : asTup t with
      | none => rw [e2] at h'; cases h'
      | some ts =>
        rw [e2] at h'
        obtain ⟨kk, tp, rfl⟩ := asTup_eq e2
        obtain ⟨h0, h4⟩ := and2 h'
        obtain ⟨h0, h3⟩ := and2 h0
        obtain ⟨h0, h2⟩ := and2 h0
        obtain ⟨h0, h1⟩ := and2 h0
        obtain ⟨p, rfl, hgl, hdb⟩ := g.gl h0
        obtain ⟨a, hm, hk⟩ := hy.tupk y ns (of_decide_eq_true h1)
        obtain ⟨q1, q2, q3⟩ := sndTs (is.map Tg.v) ts g h4
        have hpe : PE X (.Name y p) (tC (.ref a)) := pe_glob (u := .ref a) hgl (by rw [g.emg]; exact hm) rfl hdb
        refine PS.imp (ps_asg hpe (pg_tup (n := is.length) g.calm q1 (by rw [q2, List.length_map]) q3) (by unfold swapsWithSole; exact swaps_no rfl) (sw_noT rfl rfl) rfl) fun D σ H q => ?_
        have hk' : ∀ H, SqT X.K H a (ns.map V.int) := by rw [g.eK]; exact hk
        exact s_unK gs.blind (of_decide_eq_true h2) hk' q
  | .own i f, st, h => by
    have h' : (match asAssign st with
      | some (t, x, _) => locName N sc i t && (notComp x || (asComp x).isSome) && chkF L N f sc sc x
      | none => false) = true := h
    cases e1 : asAssign st with
    | none => rw [e1] at h'; cases h'
    | some q =>
      obtain ⟨t, x, pos⟩ := q
      rw [e1] at h'
      have est := asAssign_eq e1
      subst est
      obtain ⟨h0, h2⟩ := and2 h'
      obtain ⟨h0, h1⟩ := and2 h0
      exact PS.imp (asgF hy g gs f h0 h1 h2) fun D σ H q => s_own gs.blind q
  | .ownD i, st, h => by
    have h' : (match asAssign st with
      | some (t, x, _) => locName N sc i t && (match asDict x with
        | some (ks, vs) => ks.isEmpty && vs.isEmpty
        | none => false)
      | none => false) = true := h
    cases e1 : asAssign st with
    | none => rw [e1] at h'; cases h'
    | some q =>
      obtain ⟨t, x, pos⟩ := q
      rw [e1] at h'
      have est := asAssign_eq e1
      subst est
      obtain ⟨h0, h1⟩ := and2 h'
      cases e2 : asDict x with
      | none => rw [e2] at h1; cases h1
      | some q =>
        obtain ⟨ks, vs⟩ := q
        rw [e2] at h1
        obtain ⟨p2, rfl⟩ := asDict_eq e2
        obtain ⟨h1, h2⟩ := and2 h1
        cases ks with
        | cons _ _ => cases h1
        | nil =>
          cases vs with
          | cons _ _ => cases h2
          | nil =>
            obtain ⟨y, p, rfl, hN, hl, hf⟩ := g.loc h0
            exact PS.imp (ps_set g.nd hN hl pe_dnewT (swaps_no rfl) hf) fun D σ H q => s_ownD gs.blind q
  | .frz _, st, h => by cases h
  | .app i e, st, h => by
    have h' : (match asExp st with
      | some (x, _) => match asMeth x with
        | some (o, n, ap, es, ks, p) => match es with
          | [y] => ks.isEmpty && decide (n = ("append" : Str)) && (ap.endLine == p.line) && nameIs N sc i o && notStar y && chkE L N e sc sc y
          | _ => false
        | none => false
      | none => false) = true := h
    cases e1 : asExp st with
    | none => rw [e1] at h'; cases h'
    | some q =>
      obtain ⟨x, pos⟩ := q
      rw [e1] at h'
      have est := asExp_eq e1
      subst est
      dsimp only at h'
      cases e2 : asMeth x with
      | none => rw [e2] at h'; cases h'
      | some q =>
        obtain ⟨o, n, ap, es, ks, p⟩ := q
        rw [e2] at h'
        have hx := asMeth_eq e2
        match es, h', hx with
        | [], h', _ => cases h'
        | _ :: _ :: _, h', _ => cases h'
        | [y], h', hx =>
          subst hx
          obtain ⟨h0, h5⟩ := and2 h'
          obtain ⟨h0, h4⟩ := and2 h0
          obtain ⟨h0, h3⟩ := and2 h0
          obtain ⟨h0, h2⟩ := and2 h0
          obtain ⟨h0, h1⟩ := and2 h0
          have h1 := of_decide_eq_true h1
          subst h1
          cases ks with
          | cons _ _ => cases h0
          | nil =>
            obtain ⟨z, pz, rfl, hN, hv, d1, d2⟩ := g.vis h3
            have hst : starEach [y] X.env = (false, eval y X.env) :: starEach [] X.env := star_cons h4
            have he : PE X (.Call (.Attribute (.Name z pz) "append" ap) [y] [] p) (tBM X.K "list" rAppend (tVar i) (tCons (RD W Z (evE (callD U k) e)) tNil)) :=
              pe_bm PySem.F.plainAttrs_list PySem.F.slot_list_append PySem.F.type_list_append mt_append (pe_var hN hv d1 d2) (pa_cons (sndE hy e y g h5).pe pa_nil hst) attr_name (by rw [hst]; rfl) h2 hst rfl
            exact PS.imp (ps_expr he (swaps_no rfl)) fun D σ H q => s_app X.K gs.blind q
  | .appPop i j e, st, h => by
    have h' : (match asExp st with
      | some (x, _) => match asMeth x with
        | some (o, n, ap, es, ks, p) => match es with
          | [y] => ks.isEmpty && decide (n = ("append" : Str)) && (ap.endLine == p.line) && nameIs N sc i o && (match asMeth y with
            | some (o2, n2, ap2, es2, ks2, p2) => match es2 with
              | [z] => ks2.isEmpty && decide (n2 = ("pop" : Str)) && (ap2.endLine == p2.line) && nameIs N sc j o2 && notStar z && chkE L N e sc sc z
              | _ => false
            | none => false)
          | _ => false
        | none => false
      | none => false) = true := h
    cases e1 : asExp st with
    | none => rw [e1] at h'; cases h'
    | some q =>
      obtain ⟨x, pos⟩ := q
      rw [e1] at h'
      have est := asExp_eq e1
      subst est
      dsimp only at h'
      cases e2 : asMeth x with
      | none => rw [e2] at h'; cases h'
      | some q =>
        obtain ⟨o, n, ap, es, ks, p⟩ := q
        rw [e2] at h'
        have hx := asMeth_eq e2
        match es, h', hx with
        | [], h', _ => cases h'
        | _ :: _ :: _, h', _ => cases h'
        | [y], h', hx =>
          subst hx
          obtain ⟨h0, h5⟩ := and2 h'
          obtain ⟨h0, h3⟩ := and2 h0
          obtain ⟨h0, h2⟩ := and2 h0
          obtain ⟨h0, h1⟩ := and2 h0
          have h1 := of_decide_eq_true h1
          subst h1
          cases ks with
          | cons _ _ => cases h0
          | nil =>
            obtain ⟨z, pz, rfl, hN, hv, d1, d2⟩ := g.vis h3
            cases e3 : asMeth y with
            | none => rw [e3] at h5; cases h5
            | some q =>
              obtain ⟨o2, n2, ap2, es2, ks2, p2⟩ := q
              rw [e3] at h5
              have hy2 := asMeth_eq e3
              match es2, h5, hy2 with
              | [], h', _ => cases h'
              | _ :: _ :: _, h', _ => cases h'
              | [u], w', hy2 =>
                subst hy2
                obtain ⟨q0, q5⟩ := and2 w'
                obtain ⟨q0, q4⟩ := and2 q0
                obtain ⟨q0, q3⟩ := and2 q0
                obtain ⟨q0, q2⟩ := and2 q0
                obtain ⟨q0, q1⟩ := and2 (show (ks2.isEmpty && decide (n2 = ("pop" : Str))) = true from q0)
                have q1 := of_decide_eq_true q1
                subst q1
                cases ks2 with
                | cons _ _ => cases q0
                | nil =>
                  obtain ⟨z2, pz2, rfl, hN2, hv2, d3, d4⟩ := g.vis q3
                  have hst2 : starEach [u] X.env = (false, eval u X.env) :: starEach [] X.env := star_cons q4
                  have he2 : PE X (.Call (.Attribute (.Name z2 pz2) "pop" ap2) [u] [] p2) (tBM X.K "list" rPopAt (tVar j) (tCons (RD W Z (evE (callD U k) e)) tNil)) :=
                    pe_bm PySem.F.plainAttrs_list PySem.F.slot_list_pop PySem.F.type_list_pop mt_popAt (pe_var hN2 hv2 d3 d4) (pa_cons (sndE hy e u g q5).pe pa_nil hst2) attr_name (by rw [hst2]; rfl) q2 hst2 rfl
                  have he : PE X (.Call (.Attribute (.Name z pz) "append" ap) [.Call (.Attribute (.Name z2 pz2) "pop" ap2) [u] [] p2] [] p) (tBM X.K "list" rAppend (tVar i) (tCons (tBM X.K "list" rPopAt (tVar j) (tCons (RD W Z (evE (callD U k) e)) tNil)) tNil)) :=
                    pe_bm PySem.F.plainAttrs_list PySem.F.slot_list_append PySem.F.type_list_append mt_append (pe_var hN hv d1 d2) (pa_cons he2 pa_nil (star_cons rfl)) attr_name rfl h2 (star_cons rfl) rfl
                  exact PS.imp (ps_expr he (swaps_no rfl)) fun D σ H q => s_appPop X.K gs.blind q
  | .ext i f, st, h => by
    have h' : (match asExp st with
      | some (x, _) => match asMeth x with
        | some (o, n, ap, es, ks, p) => match es with
          | [y] => ks.isEmpty && decide (n = ("extend" : Str)) && (ap.endLine == p.line) && nameIs N sc i o && notStar y && chkF L N f sc sc y
          | _ => false
        | none => false
      | none => false) = true := h
    cases e1 : asExp st with
    | none => rw [e1] at h'; cases h'
    | some q =>
      obtain ⟨x, pos⟩ := q
      rw [e1] at h'
      have est := asExp_eq e1
      subst est
      dsimp only at h'
      cases e2 : asMeth x with
      | none => rw [e2] at h'; cases h'
      | some q =>
        obtain ⟨o, n, ap, es, ks, p⟩ := q
        rw [e2] at h'
        have hx := asMeth_eq e2
        match es, h', hx with
        | [], h', _ => cases h'
        | _ :: _ :: _, h', _ => cases h'
        | [y], h', hx =>
          subst hx
          obtain ⟨h0, h5⟩ := and2 h'
          obtain ⟨h0, h4⟩ := and2 h0
          obtain ⟨h0, h3⟩ := and2 h0
          obtain ⟨h0, h2⟩ := and2 h0
          obtain ⟨h0, h1⟩ := and2 h0
          have h1 := of_decide_eq_true h1
          subst h1
          cases ks with
          | cons _ _ => cases h0
          | nil =>
            obtain ⟨z, pz, rfl, hN, hv, d1, d2⟩ := g.vis h3
            have hst : starEach [y] X.env = (false, eval y X.env) :: starEach [] X.env := star_cons h4
            have he : PE X (.Call (.Attribute (.Name z pz) "extend" ap) [y] [] p) (tBM X.K "list" rExtend (tVar i) (tCons (RDf W Z (evF (callD U k) f)) tNil)) :=
              pe_bm PySem.F.plainAttrs_list PySem.F.slot_list_extend PySem.F.type_list_extend mt_extend (pe_var hN hv d1 d2) (pa_cons (sndF hy f y g h5).1 pa_nil hst) attr_name (by rw [hst]; rfl) h2 hst rfl
            exact PS.imp (ps_expr he (swaps_no rfl)) fun D σ H q => s_ext X.K gs.blind q
  | .setI a i e, st, h => by
    have h' : (match asAssign st with
      | some (t, x, _) => match asSub t with
        | some (p, q) => notSlice q && notComp x && chkE L N e sc sc x && chkE L N a sc sc p && chkE L N i sc sc q
        | none => false
      | none => false) = true := h
    cases e1 : asAssign st with
    | none => rw [e1] at h'; cases h'
    | some q =>
      obtain ⟨t, x, pos⟩ := q
      rw [e1] at h'
      have est := asAssign_eq e1
      subst est
      dsimp only at h'
      cases e2 : asSub t with
      | none => rw [e2] at h'; cases h'
      | some q =>
        obtain ⟨p, q⟩ := q
        rw [e2] at h'
        obtain ⟨sp, rfl⟩ := asSub_eq e2
        obtain ⟨h0, h4⟩ := and2 h'
        obtain ⟨h0, h3⟩ := and2 h0
        obtain ⟨h0, h2⟩ := and2 h0
        obtain ⟨h0, h1⟩ := and2 h0
        exact PS.imp (ps_item (sndE hy a p g h3).pe (sndE hy i q g h4).pe (sndE hy e x g h2).pe h0 h1) fun D σ H q => s_setI gs.blind q
  | .oset y i e, st, h => by
    have h' : (match asAssign st with
      | some (t, x, _) => match asSub t with
        | some (p, q) => notSlice q && notComp x && chkE L N e sc sc x && nameIs N sc y p && chkE L N i sc sc q
        | none => false
      | none => false) = true := h
    cases e1 : asAssign st with
    | none => rw [e1] at h'; cases h'
    | some q =>
      obtain ⟨t, x, pos⟩ := q
      rw [e1] at h'
      have est := asAssign_eq e1
      subst est
      dsimp only at h'
      cases e2 : asSub t with
      | none => rw [e2] at h'; cases h'
      | some q =>
        obtain ⟨p, q⟩ := q
        rw [e2] at h'
        obtain ⟨sp, rfl⟩ := asSub_eq e2
        obtain ⟨h0, h4⟩ := and2 h'
        obtain ⟨h0, h3⟩ := and2 h0
        obtain ⟨h0, h2⟩ := and2 h0
        obtain ⟨hs, h1⟩ := and2 h0
        obtain ⟨z, pz, rfl, hN, hv, d1, d2⟩ := g.vis h3
        exact PS.imp (ps_item (pe_var hN hv d1 d2) (sndE hy i q g h4).pe (sndE hy e x g h2).pe hs h1) fun D σ H q => s_oset gs.blind q
  | .dset y i e, st, h => by
    have h' : (match asAssign st with
      | some (t, x, _) => match asSub t with
        | some (p, q) => notComp x && chkE L N e sc sc x && nameIs N sc y p && chkE L N i sc sc q
        | none => false
      | none => false) = true := h
    cases e1 : asAssign st with
    | none => rw [e1] at h'; cases h'
    | some q =>
      obtain ⟨t, x, pos⟩ := q
      rw [e1] at h'
      have est := asAssign_eq e1
      subst est
      dsimp only at h'
      cases e2 : asSub t with
      | none => rw [e2] at h'; cases h'
      | some q =>
        obtain ⟨p, q⟩ := q
        rw [e2] at h'
        obtain ⟨sp, rfl⟩ := asSub_eq e2
        obtain ⟨h0, h4⟩ := and2 h'
        obtain ⟨h0, h3⟩ := and2 h0
        obtain ⟨hs, h2⟩ := and2 h0
        obtain ⟨z, pz, rfl, hN, hv, d1, d2⟩ := g.vis h3
        exact PS.imp (ps_dput (Nat.lt_of_le_of_lt (by omega) g.units) (pe_var hN hv d1 d2) (sndE hy i q g h4).pe (sndE hy e x g h2).pe (swaps_no hs)) fun D σ H q => s_dset gs.blind q
  | .aug i o e, st, h => by
    have h' : (match asAug st with
      | some (t, o', x, _) => decide (o' = opB o) && locName N sc i t && (decide (o = .add) || decide (o = .sub)) && chkE L N e sc sc x
      | none => false) = true := h
    cases e1 : asAug st with
    | none => rw [e1] at h'; cases h'
    | some q =>
      obtain ⟨t, o', x, pos⟩ := q
      rw [e1] at h'
      have est := asAug_eq e1
      subst est
      obtain ⟨h0, h3⟩ := and2 h'
      obtain ⟨h0, h2⟩ := and2 h0
      obtain ⟨h0, h1⟩ := and2 h0
      have h0 := of_decide_eq_true h0
      subst h0
      obtain ⟨y, p, rfl, hN, hl, hf⟩ := g.loc h1
      cases o with
      | add => exact PS.imp (ps_aug g.nd hN hl (sndE hy e x g h3).pe ip_add hf) fun D σ H q => s_aug gs.blind (fun x y z h => bop_add h) q
      | sub => exact PS.imp (ps_aug g.nd hN hl (sndE hy e x g h3).pe ip_sub hf) fun D σ H q => s_aug gs.blind (fun x y z h => bop_sub h) q
      | _ => cases h2
  | .ret e, st, h => by
    have h' : (match asRet st with
      | some (x, _) => match x with
        | some x => chkE L N e sc sc x
        | none => false
      | none => false) = true := h
    cases e1 : asRet st with
    | none => rw [e1] at h'; cases h'
    | some q =>
      obtain ⟨x, pos⟩ := q
      rw [e1] at h'
      have est := asRet_eq e1
      subst est
      cases x with
      | none => cases h'
      | some x => exact PS.imp (ps_ret (sndE hy e x g h').pe) fun D σ H q => s_ret gs.blind q
  | .retN, st, h => by
    have h' : (match asRet st with
      | some (x, _) => x.isNone
      | none => false) = true := h
    cases e1 : asRet st with
    | none => rw [e1] at h'; cases h'
    | some q =>
      obtain ⟨x, pos⟩ := q
      rw [e1] at h'
      have est := asRet_eq e1
      subst est
      cases x with
      | none => exact PS.imp ps_retN fun D σ H q => s_retN q
      | some x => cases h'
  | .if_ c a b, st, h => by
    have h' : (match asIfS st with
      | some (x, p, q, _) => notIf x && chkE L N c sc sc x && chkSs L N a sc p && chkSs L N b sc q
      | none => false) = true := h
    cases e1 : asIfS st with
    | none => rw [e1] at h'; cases h'
    | some q =>
      obtain ⟨x, p, q, pos⟩ := q
      rw [e1] at h'
      have est := asIfS_eq e1
      subst est
      obtain ⟨h0, h3⟩ := and2 h'
      obtain ⟨h0, h2⟩ := and2 h0
      obtain ⟨h0, h1⟩ := and2 h0
      exact PS.imp (ps_if ((sndE hy c x g h1).pt h0) (sndSs hy g gs a p h2) (sndSs hy g gs b q h3)) fun D σ H q => s_if gs.blind q
  | .for_ tg it b, st, h => by
    have h' : (match asFor st with
      | some (t, x, p, o, _) => o.isEmpty && notSet x && chkIt L N it t sc sc x && chkT N sc tg t && chkSs L N b sc p
      | none => false) = true := h
    cases e1 : asFor st with
    | none => rw [e1] at h'; cases h'
    | some q =>
      obtain ⟨t, x, p, o, pos⟩ := q
      rw [e1] at h'
      have est := asFor_eq e1
      subst est
      obtain ⟨h0, h4⟩ := and2 h'
      obtain ⟨h0, h3⟩ := and2 h0
      obtain ⟨h0, h2⟩ := and2 h0
      obtain ⟨h0, h1⟩ := and2 h0
      cases o with
      | cons _ _ => cases h0
      | nil => exact PS.imp (ps_for gs.own g.calm (sndIt hy it t x g h2) (sndT tg t g h3) (sndSs hy g gs b p h4) (fun x => fold_no h1 x)) fun D σ H q => s_for gs.blind q
  | .while_ c b, st, h => by
    have h' : (match asWhile st with
      | some (x, p, o, _) => o.isEmpty && notIf x && chkE L N c sc sc x && chkSs L N b sc p
      | none => false) = true := h
    cases e1 : asWhile st with
    | none => rw [e1] at h'; cases h'
    | some q =>
      obtain ⟨x, p, o, pos⟩ := q
      rw [e1] at h'
      have est := asWhile_eq e1
      subst est
      obtain ⟨h0, h3⟩ := and2 h'
      obtain ⟨h0, h2⟩ := and2 h0
      obtain ⟨h0, h1⟩ := and2 h0
      cases o with
      | cons _ _ => cases h0
      | nil => exact PS.imp (ps_while gs.own ((sndE hy c x g h2).pt h1) (sndSs hy g gs b p h3)) fun D σ H q => s_while gs.blind q
  | .raise _ _, st, h => by cases h
  | .ex e, st, h => by
    have h' : (match asExp st with
      | some (x, _) => notComp x && chkE L N e sc sc x
      | none => false) = true := h
    cases e1 : asExp st with
    | none => rw [e1] at h'; cases h'
    | some q =>
      obtain ⟨x, pos⟩ := q
      rw [e1] at h'
      have est := asExp_eq e1
      subst est
      obtain ⟨h0, h1⟩ := and2 h'
      exact PS.imp (ps_expr (sndE hy e x g h1).pe (swaps_no h0)) fun D σ H q => s_ex gs.blind q
  | .pass, st, h => by
    have h' : isPass st = true := h
    cases st with
    | Pass p => exact PS.imp ps_pass fun D σ H q => s_pass q
    | Expr x p =>
      cases x with
      | Constant c kk p2 =>
        cases c with
        | str x => exact PS.imp ps_doc fun D σ H q => s_pass q
        | _ => cases h'
      | _ => cases h'
    | _ => cases h'
  | .nev, st, h => PS.imp ps_never fun D σ H q => by
    obtain ⟨zz, F0, μ0, H0, F, μ, env, h, A, a⟩ := q
    exact a
  | .fset i c y e, st, h => by
    have h' : (match asAssign st with
      | some (t, x, _) => match asAttr t with
        | some (o, n) => decide (n = y) && nameIs N sc i o && L.na c y && notComp x && chkE L N e sc sc x
        | none => false
      | none => false) = true := h
    cases e1 : asAssign st with
    | none => rw [e1] at h'; cases h'
    | some q =>
      obtain ⟨t, x, pos⟩ := q
      rw [e1] at h'
      have est := asAssign_eq e1
      subst est
      dsimp only at h'
      cases e2 : asAttr t with
      | none => rw [e2] at h'; cases h'
      | some q =>
        obtain ⟨o, n⟩ := q
        rw [e2] at h'
        obtain ⟨tp, rfl⟩ := asAttr_eq e2
        obtain ⟨h0, h4⟩ := and2 h'
        obtain ⟨h0, h3⟩ := and2 h0
        obtain ⟨h0, h2⟩ := and2 h0
        obtain ⟨hs, h1⟩ := and2 h0
        have hs := of_decide_eq_true hs
        subst hs
        obtain ⟨z, pz, rfl, hN, hv, d1, d2⟩ := g.vis h1
        exact PS.imp (ps_fld (pe_var hN hv d1 d2) (sndE hy e x g h4).pe (swaps_no h3)) fun D σ H q => s_fset gs.blind g.eK (hy.noat c _ h2) q
theorem sndSs (hy : Hyp U W L k) (g : Gd W k N sc sc X Z) (gs : Gs X Z) : ∀ (ss : List S) (sts : List Stmt), chkSs L N ss sc sts = true → PSs X sts (RS W Z (evSs (callD U k) ss))
  | [], sts, h => by
    cases sts with
    | nil => exact PSs.imp pss_nil fun D σ H q => s_pass q
    | cons _ _ => cases h
  | s :: ss, sts, h => by
    by_cases hf : ∃ i, s = .frz i
    · obtain ⟨i, rfl⟩ := hf
      have h' : chkSs L N ss sc sts = true := h
      exact PSs.imp (sndSs hy g gs ss sts h') fun D σ H q => s_frz gs.blind q
    · by_cases hw : ∃ i d k v, s = .wthR i d k v
      · obtain ⟨i, d, kk, v, rfl⟩ := hw
        obtain ⟨w1, w2⟩ := and2 (show (ss.isEmpty && chkW N sc i d kk v sts) = true from h)
        cases ss with
        | cons _ _ => cases w1
        | nil => exact sndW hy g gs w2
      have h' : (match (generalizing := false) sts with | st :: sts => chkS L N s sc st && chkSs L N ss sc sts | [] => false) = true := by
        cases s with
        | frz i => exact absurd ⟨i, rfl⟩ hf
        | wthR i d k v => exact absurd ⟨i, d, k, v, rfl⟩ hw
        | _ => exact h
      cases sts with
      | nil => cases h'
      | cons st sts =>
        obtain ⟨h1, h2⟩ := and2 h'
        exact PSs.imp (pss_cons (sndS hy g gs s st h1) (sndSs hy g gs ss sts h2)) fun D σ H q => s_seq q gs.blind
end
/-! ### defs -/
theorem at_start {zz : Addr} {F : Addr → Prop} {μ : List Addr} {H : Hp} {h : Hs} {args : List Val} {xs : List L2.V} {n : Nat} (r : RSt W F μ H h) (q : RVs W F μ H args xs) (hn : n = N.length) : At W zz F μ H F μ H h (startE n args) (start N xs) := by
  have l := RVs.length q
  have key : ∀ (i : Nat) s, (startE n args)[i]? = some (some s) → ∃ v, s = .v v ∧ args[i]? = some v := fun i s e => by
    unfold startE at e
    by_cases hi : i < args.length
    · rw [List.getElem?_append_left (by rw [List.length_map]; exact hi), List.getElem?_map] at e
      obtain ⟨v, e1, e2⟩ := Option.map_eq_some_iff.mp e
      exact ⟨v, (Option.some.inj e2).symm, e1⟩
    · rw [List.getElem?_append_right (by rw [List.length_map]; omega)] at e
      obtain ⟨_, e2⟩ := List.getElem?_eq_some_iff.mp e
      rw [List.getElem_replicate] at e2
      cases e2
  have no : ∀ i a, ¬ OwnAt (startE n args) (start N xs) i a := fun i a ⟨s, e1, e2, _⟩ => by
    obtain ⟨v, rfl, _⟩ := key i s e1
    cases e2
  refine ⟨r, ⟨?_, fun i s e => ?_, fun i j a h1 _ => absurd h1 (no i a)⟩, Stp.refl, fun a ⟨i, o⟩ => absurd o (no i a), r.lf, fun i c ns vs e => by
    obtain ⟨v, ev, _⟩ := key i _ e
    cases ev⟩
  · unfold startE L2.start
    rw [List.length_append, List.length_append, List.length_map, List.length_map, List.length_replicate, List.length_replicate, l, hn]
  · obtain ⟨v, rfl, e1⟩ := key i s e
    obtain ⟨x, e2, rx⟩ := RVs.get q e1
    refine ⟨x, ?_, rx⟩
    unfold L2.start
    rw [List.getElem?_append_left (by rw [List.length_map]; exact (List.getElem?_eq_some_iff.mp e2).1), List.getElem?_map, e2]
    rfl
/-- a def of the text -/
structure MRow (U : Nat → Option Def) (W : Wd) (L : Lk) (f : Nat) (nm : Str) (fa : Addr) (fd : FuncData) (ps : List Str) : Prop where
  ok : ∃ (name qual : Str) (params : Arguments) (body : List Stmt) (scope : Scope) (dvs : List L2.V) (kws : List (Str × L2.V)) (N : List Str) (d : FDef), FunD W.K name qual params body scope dvs kws fa fd ∧ FnScope N ps scope ∧
    U f = some (.fn d) ∧ d.ps = ps.length ∧ d.n = N.length ∧ chkSs L N d.body scope body = true
/-- .. that the module knows by its name -/
structure FRow (U : Nat → Option Def) (W : Wd) (L : Lk) (f : Nat) (nm : Str) (fa : Addr) (fd : FuncData) (ps : List Str) : Prop where
  mg : W.mg nm = some (.ref fa)
  kp : PySem.W.keepIn W.K (.ref fa) = true
  dfl : ∀ dl ∈ L.dfl f, ∃ ds, Binds W.K fd ps ds ∧ Vals (dl.map Lit.V) ds
  row : MRow U W L f nm fa fd ps
theorem fok_zero {P : Program} {w : World} {K : PySem.W.Frag} {mg : Str → Option Value} {base : Heap} {f : Addr} {fd : FuncData} {ps : List Str} {sp : Sp} {n : Nat} (h : ∀ vs H Q E, ¬ sp vs H Q E) : Fok P w K mg base n f fd ps sp :=
  ⟨fun vs H Q E q => absurd q (h vs H Q E), fun A out s H args us vs Q E r e b v q => absurd q (h vs H Q E)⟩
theorem frow_ok {f : Nat} {nm : Str} {fa : Addr} {fd : FuncData} {ps : List Str} (hy : Hyp U W L k) (r : MRow U W L f nm fa fd ps) : Fok W.P W.w W.K W.mg W.base (k + 1) fa fd ps (spD W U (k + 1) f) := by
  obtain ⟨name, qual, params, body, scope, dvs, kws, N, d, D, S, hU, hp, hn, hc⟩ := r.ok
  have unf : ∀ (args : List Val) (h : Hs), callD U (k + 1) f args h = if args.length = d.ps then retOf (evSs (callD U k) d.body (startE d.n args) h) else .bad := fun args h => by
    rw [callD_fn hU]
    rfl
  refine Fok.of D S (fun vs H Q E q => ?_) fun cd A out s H vs Q E hr q => ?_
  · obtain ⟨F, μ, h, args, r, rv, a⟩ := q
    rw [unf] at a
    by_cases hl : args.length = d.ps
    · rw [← RVs.length rv, hl, hp]
    · rw [if_neg hl] at a
      exact a.elim
  · obtain ⟨F, μ, h, args, r, rv, a⟩ := q
    rw [unf] at a
    by_cases hl : args.length = d.ps
    · rw [if_pos hl] at a
      have g : Gd W k N scope scope (cxOf (L2.CX W.P W.w) W.P W.w W.K W.mg W.base N qual scope fa cd A out s H E) (fun c d _ H => E c d H) := {
        eP := rfl
        ew := rfl
        eK := rfl
        emg := rfl
        ebase := rfl
        eN := rfl
        nd := S.nd
        sc := rfl
        calm := rfl
        st := fun x hx => by
          refine ⟨?_, .inl rfl⟩
          unfold locB at hx
          show scope.names.lookup x = some .local ∨ scope.names.lookup x = some .cell
          cases e : scope.names.lookup x with
          | none => rw [e] at hx; cases hx
          | some kd =>
            rw [e] at hx
            cases kd with
            | «local» => exact .inl rfl
            | cell => exact .inr rfl
            | free => cases hx
            | globalExplicit => cases hx
            | globalImplicit => cases hx
        rm := hr
        tk := takes_of rfl rfl rfl rfl }
      refine ⟨_, sndSs hy g ⟨passes_of rfl, fun _ _ _ _ _ z => z, S.kind⟩ d.body body hc, 0, F, μ, H, F, μ, startE d.n args, h, at_start r rv hn, ?_⟩
      cases he : evSs (callD U k) d.body (startE d.n args) h with
      | ok fl e2 h2 =>
        rw [he] at a
        cases fl with
        | nxt => exact fun F' μ' H' σ' A _ => a F' μ' H' _ A.st A.stp rfl
        | ret v => exact fun F' μ' H' x r s rv => a F' μ' H' x r s rv
      | exc c v h2 =>
        rw [he] at a
        exact fun F' μ' H' d x r s n f m e rv => a F' μ' H' d x r s n f m e rv
      | bad =>
        rw [he] at a
        exact a.elim
    · rw [if_neg hl] at a
      exact a.elim
/-! ### __init__ -/
structure IRow (U : Nat → Option Def) (W : Wd) (L : Lk) (n c : Nat) (nm : Str) (fi : Addr) (fd : FuncData) (ps : List Str) : Prop where
  mg : W.mg nm = some (.ref (W.ca c))
  mkr : Mk W.K (W.ca c) fi
  cls : OwnC W.K (W.ca c)
  dfl : ∀ dl ∈ L.dfl n, ∃ ds, Binds W.K fd ps ds ∧ Vals (dl.map Lit.V) ds
  ok : ∃ (name qual : Str) (params : Arguments) (body : List Stmt) (scope : Scope) (dvs : List L2.V) (kws : List (Str × L2.V)) (N : List Str) (d : FDef), FunD W.K name qual params body scope dvs kws fi fd ∧ FnScope N ps scope ∧
    U n = some (.mk c d) ∧ d.ps = ps.length ∧ d.n = N.length ∧ chkSs L N d.body scope body = true
theorem at_init {F : Addr → Prop} {μ : List Addr} {H : Hp} {h : Hs} {args : List Val} {xs : List L2.V} {n c : Nat} {x dx : Addr} (r : RSt W F μ H h) (q : RVs W F μ H args xs) (hn : n = N.length) (hp : args.length + 1 ≤ n) (cl : OwnC W.K (W.ca c)) (nx : H x = none) (nd : H dx = none) (ne : dx ≠ x) :
    At W x F μ H F μ (upd (upd H dx (.own x)) x (.ins (W.ca c) dx [])) h (startI c n args) (start N (.ref x :: xs)) := by
  have l := RVs.length q
  have nx2 : upd H dx (.own x) x = none := (upd_ne (Ne.symm ne)).trans nx
  have r1 := r.fresh (o := .own x) nd
  have r2 := r1.fresh (o := .ins (W.ca c) dx []) nx2
  have s1 : Stp F μ H F μ (upd H dx (.own x)) := Stp.fresh nd (r.notF nd)
  have s2 : Stp F μ (upd H dx (.own x)) F μ (upd (upd H dx (.own x)) x (.ins (W.ca c) dx [])) := Stp.fresh nx2 (r1.notF nx2)
  have ss := s1.trans s2
  have q2 := RVs.mono ss _ _ q
  have key : ∀ (i : Nat) s, (startI c n args)[i]? = some (some s) → (i = 0 ∧ s = .ownI c [] []) ∨ ∃ j v, i = j + 1 ∧ s = .v v ∧ args[j]? = some v := fun i s e => by
    cases i with
    | zero =>
      cases e
      exact .inl ⟨rfl, rfl⟩
    | succ j =>
      have e' : (startE (n - 1) args)[j]? = some (some s) := e
      unfold startE at e'
      by_cases hi : j < args.length
      · rw [List.getElem?_append_left (by rw [List.length_map]; exact hi), List.getElem?_map] at e'
        obtain ⟨v, e1, e2⟩ := Option.map_eq_some_iff.mp e'
        exact .inr ⟨j, v, rfl, (Option.some.inj e2).symm, e1⟩
      · rw [List.getElem?_append_right (by rw [List.length_map]; omega)] at e'
        obtain ⟨_, e2⟩ := List.getElem?_eq_some_iff.mp e'
        rw [List.getElem_replicate] at e2
        cases e2
  have at0 : (L2.start N (.ref x :: xs))[0]? = some (some (.ref x)) := rfl
  have own0 : ∀ i a, OwnAt (startI c n args) (start N (.ref x :: xs)) i a → i = 0 ∧ a = x := fun i a ⟨s, e1, e2, e3⟩ => by
    rcases key i s e1 with ⟨rfl, _⟩ | ⟨j, v, _, rfl, _⟩
    · rw [at0] at e3
      cases e3
      exact ⟨rfl, rfl⟩
    · cases e2
  refine ⟨r2, ⟨?_, fun i s e => ?_, fun i j a h1 h2 => (own0 i a h1).1.trans (own0 j a h2).1.symm⟩, ss, fun a ⟨i, o⟩ => by rw [(own0 i a o).2]; exact nx, r.lf, fun i c ns vs e => ?_⟩
  · unfold startI startE L2.start
    rw [List.length_cons, List.length_append, List.length_append, List.length_map, List.length_map, List.length_replicate, List.length_replicate, List.length_cons]
    omega
  · rcases key i s e with ⟨rfl, rfl⟩ | ⟨j, v, rfl, rfl, e1⟩
    · exact ⟨_, at0, x, dx, [], rfl, upd_same, (upd_ne ne).trans upd_same, rfl, rfl, r.notF nx, r.notM nx, r.notM nd, cl, fun z hz => by cases hz⟩
    · obtain ⟨y, e2, ry⟩ := RVs.get q2 e1
      refine ⟨y, ?_, ry⟩
      have lt := (List.getElem?_eq_some_iff.mp e2).1
      unfold L2.start
      rw [List.getElem?_append_left (by rw [List.length_map, List.length_cons]; omega), List.getElem?_map]
      show (xs[j]?).map some = _
      rw [e2]
      rfl
  · rcases key i _ e with ⟨rfl, _⟩ | ⟨j, v, _, z, _⟩
    · exact at0
    · cases z
theorem init_ok {n c : Nat} {nm : Str} {fi : Addr} {fd : FuncData} {ps : List Str} (hy : Hyp U W L k) (r : IRow U W L n c nm fi fd ps) : Fok W.P W.w W.K W.mg W.base (k + 1) fi fd ps (spI W U (k + 1) n c) := by
  obtain ⟨name, qual, params, body, scope, dvs, kws, N, d, D, S, hU, hp, hn, hc⟩ := r.ok
  have lN : ps.length ≤ N.length := by have := congrArg List.length S.pre; rw [List.length_take] at this; omega
  refine Fok.of D S (fun vs H Q E q => ?_) fun cd A out s H vs Q E hr q => ?_
  · obtain ⟨F, μ, h, args, x, dx, ys, H0, rfl, rfl, nx, nd, ne, rr, rv, a⟩ := q
    rw [callD_mk hU] at a
    unfold runI at a
    by_cases hl : args.length + 1 = d.ps
    · rw [List.length_cons, ← RVs.length rv, hl, hp]
    · rw [if_neg hl] at a
      exact a.elim
  · obtain ⟨F, μ, h, args, x, dx, ys, H0, rfl, rfl, nx, nd, ne, rr, rv, a⟩ := q
    rw [callD_mk hU] at a
    unfold runI at a
    by_cases hl : args.length + 1 = d.ps
    · rw [if_pos hl] at a
      have g : Gd W k N scope scope (cxOf (L2.CX W.P W.w) W.P W.w W.K W.mg W.base N qual scope fi cd A out s (upd (upd H0 dx (.own x)) x (.ins (W.ca c) dx [])) E) (fun c d _ H => E c d H) := {
        eP := rfl
        ew := rfl
        eK := rfl
        emg := rfl
        ebase := rfl
        eN := rfl
        nd := S.nd
        sc := rfl
        calm := rfl
        st := fun x hx => by
          refine ⟨?_, .inl rfl⟩
          unfold locB at hx
          show scope.names.lookup x = some .local ∨ scope.names.lookup x = some .cell
          cases e : scope.names.lookup x with
          | none => rw [e] at hx; cases hx
          | some kd =>
            rw [e] at hx
            cases kd with
            | «local» => exact .inl rfl
            | cell => exact .inr rfl
            | free => cases hx
            | globalExplicit => cases hx
            | globalImplicit => cases hx
        rm := hr
        tk := takes_of rfl rfl rfl rfl }
      refine ⟨_, sndSs hy g ⟨passes_of rfl, fun _ _ _ _ _ z => z, S.kind⟩ d.body body hc, x, F, μ, H0, F, μ, startI c d.n args, h, at_init rr rv hn (by rw [hl, hp, hn]; exact lN) r.cls nx nd ne, ?_⟩
      cases he : evSs (callD U k) d.body (startI c d.n args) h with
      | ok fl e2 h2 =>
        rw [he] at a
        cases fl with
        | nxt =>
          intro F' μ' H' σ' A' _
          cases ho : ownIL e2 0 with
          | none =>
            have a' : Aft (match ownIL e2 0 with
              | some t => if t.1 = c then Out.ok (Val.inst c t.2.1 t.2.2) h2 else .bad
              | none => .bad) _ _ := a
            rw [ho] at a'
            exact a'.elim
          | some t =>
            have a' : Aft (match ownIL e2 0 with
              | some t => if t.1 = c then Out.ok (Val.inst c t.2.1 t.2.2) h2 else .bad
              | none => .bad) _ _ := a
            rw [ho] at a'
            by_cases hcc : t.1 = c
            · have a2 : Aft (if t.1 = c then Out.ok (Val.inst c t.2.1 t.2.2) h2 else .bad) _ _ := a'
              rw [if_pos hcc] at a2
              have e0 := ownI_some ho
              obtain ⟨o, e1, p, dy, fs, rfl, g1, gd, en, rvf, nf, nm', md, fl⟩ := A'.en.sl 0 _ e0
              have ez := A'.me 0 _ _ _ e0
              rw [e1] at ez
              cases ez
              rw [hcc] at g1 fl
              have live1 : H' x ≠ none := by rw [g1]; exact fun z => by cases z
              have live2 : H' dy ≠ none := by rw [gd]; exact fun z => by cases z
              have r1 := (A'.st.grow live1 nm').grow (p := dy) live2 md
              have st1 := A'.stp.freeze (p := x) nx
              have st2 : Stp F μ H0 (fun b => (F' b ∨ b = x) ∨ b = dy) μ' H' := {
                f := fun b f => .inl (st1.f b f)
                m := st1.m
                fz := st1.fz
                keep := st1.keep
                fn := fun b f => by
                  rcases f with f | f
                  · exact st1.fn b f
                  · subst f
                    cases hd : H0 b with
                    | none => exact .inr (.inl rfl)
                    | some ob =>
                      have nm0 : b ∉ μ := fun z => md (A'.stp.mem z)
                      have kp := A'.stp.keep b ob hd nm0
                      rw [gd] at kp
                      cases kp
                      exact .inr (.inr ⟨⟨_, rfl, True.intro⟩, md⟩)
                mn := st1.mn
                lv := st1.lv }
              exact a2 _ μ' H' r1 st2 ⟨x, dy, fs, rfl, .inl (.inr rfl), .inr rfl, g1, gd, en, RVs.grow _ _ (RVs.grow _ _ rvf), fl⟩
            · have a2 : Aft (if t.1 = c then Out.ok (Val.inst c t.2.1 t.2.2) h2 else .bad) _ _ := a'
              rw [if_neg hcc] at a2
              exact a2.elim
        | ret v =>
          exact (show False from a).elim
      | exc cc v h2 =>
        rw [he] at a
        exact fun F' μ' H' d x r s n f m e rv => a F' μ' H' d x r s n f m e rv
      | bad =>
        rw [he] at a
        exact a.elim
    · rw [if_neg hl] at a
      exact a.elim
theorem fokI_all {n c : Nat} {nm : Str} {fi : Addr} {fd : FuncData} {ps : List Str} (r : IRow U W L n c nm fi fd ps) (hy : ∀ j, j < k → Hyp U W L j) : ∀ j, j ≤ k → Fok W.P W.w W.K W.mg W.base j fi fd ps (spI W U j n c)
  | 0, _ => fok_zero fun vs H Q E ⟨F, μ, h, args, x, dx, ys, H0, _, _, _, _, _, _, _, a⟩ => by
      obtain ⟨_, _, _, _, _, _, _, _, d, _, _, hU, _⟩ := r.ok
      rw [callD_mk1 hU] at a
      exact a
  | j + 1, l => init_ok (hy j l) r
/-- all of them, at every depth -/
theorem fok_all {f : Nat} {nm : Str} {fa : Addr} {fd : FuncData} {ps : List Str} (r : MRow U W L f nm fa fd ps) (hy : ∀ j, j < k → Hyp U W L j) : ∀ j, j ≤ k → Fok W.P W.w W.K W.mg W.base j fa fd ps (spD W U j f)
  | 0, _ => fok_zero fun vs H Q E ⟨F, μ, h, args, _, _, a⟩ => a
  | j + 1, l => frow_ok (hy j l) r
theorem hyp_all (hf : ∀ f nm, L.fn f = some nm → ∃ fa fd ps, FRow U W L f nm fa fd ps) (hg : ∀ x l, L.gl x = some l → ∃ u, W.mg x = some u ∧ RelV l.V u) (hb : ∀ x ∈ biNames, W.mg x = none)
    (hp : ∀ n x, L.pn n = some x → ∃ l, U n = some (.disp l) ∧ ∀ c g, l.lookup c = some g → ∃ nm fa fd ps p, Cls W.K (W.ca c) ∧ PropOf W.K (W.ca c) x p fa ∧ Binds W.K fd ps [] ∧ MRow U W L g nm fa fd ps)
    (hm : ∀ n x, L.mn n = some x → ∃ l, U n = some (.disp l) ∧ ∀ c g, l.lookup c = some g → ∃ nm fa fd ps, Cls W.K (W.ca c) ∧ Meth W.K (W.ca c) x fa ∧ (∀ dl ∈ L.dfl n, ∃ ds, Binds W.K fd ps ds ∧ Vals (dl.map Lit.V) ds) ∧ MRow U W L g nm fa fd ps)
    (hc : ∀ n nm, L.cn n = some nm → ∃ c fi fd ps, IRow U W L n c nm fi fd ps) (hn : ∀ c x, L.na c x = true → OwnC W.K (W.ca c) ∧ NoAttr W.K (W.ca c) x)
    (ho : ∀ c nm, L.cl c = some nm → W.mg nm = some (.ref (W.ca c)) ∧ OwnC W.K (W.ca c))
    (he : ∀ n, L.eq n = true → ∃ l, U n = some (.disp l) ∧ ∀ c g, l.lookup c = some g → ∃ nm f fd ps, OwnEq W.K (W.ca c) f ∧ Binds W.K fd ps [] ∧ MRow U W L g nm f fd ps)
    (ht : ∀ x ns, L.gt x = some ns → ∃ a, W.mg x = some (.ref a) ∧ ∀ H, SqT W.K H a (ns.map V.int)) : ∀ k, Hyp U W L k := by
  intro k
  induction k using Nat.strongRecOn with
  | _ k ih =>
    refine ⟨fun f nm h => ?_, hg, hb, fun n x h => ?_, fun n x h => ?_, fun n nm h => ?_, hn, ho, fun n h => ?_, ht⟩
    · obtain ⟨fa, fd, ps, r⟩ := hf f nm h
      exact ⟨fa, fd, ps, r.mg, r.kp, r.dfl, fok_all r.row ih⟩
    · obtain ⟨l, h1, h2⟩ := hp n x h
      refine ⟨l, h1, fun c g hl => ?_⟩
      obtain ⟨nm, fa, fd, ps, p, q1, q2, q3, r⟩ := h2 c g hl
      exact ⟨fa, fd, ps, p, q1, q2, q3, fok_all r ih⟩
    · obtain ⟨l, h1, h2⟩ := hm n x h
      refine ⟨l, h1, fun c g hl => ?_⟩
      obtain ⟨nm, fa, fd, ps, q1, q2, q3, r⟩ := h2 c g hl
      exact ⟨fa, fd, ps, q1, q2, q3, fok_all r ih⟩
    · obtain ⟨c, fi, fd, ps, r⟩ := hc n nm h
      obtain ⟨_, _, _, _, _, _, _, _, d, _, _, hU, _⟩ := r.ok
      exact ⟨c, d, fi, fd, ps, hU, r.mg, r.mkr, r.dfl, fokI_all r ih⟩
    · obtain ⟨l, h1, h2⟩ := he n h
      refine ⟨l, h1, fun c g hl => ?_⟩
      obtain ⟨nm, f, fd, ps, q1, q2, r⟩ := h2 c g hl
      exact ⟨f, fd, ps, q1, q2, fok_all r ih⟩
end
end Pyi
set_option Elab.async false
set_option linter.all false
set_option maxRecDepth 100000
set_option maxHeartbeats 2000000
/-! The law's end, for Fok. -/
namespace Pyi
open PySem PySem.Spec PyProof.Rows L2

/-- the law's def is called on its script, at the heap behind the top (the library's law_call, for a promise that knows that nothing is being shown) -/
theorem law_run {P : Program} {w : World} {K : PySem.W.Frag} {mg nb : Str → Option Value} {k : Nat} {fa sc : Addr} {fd : FuncData} {x : Str} {sp : Sp} {s₁ : Shared} {us : List Value} {ns : List Int}
    (kin : K.In s₁.heap) (gns : s₁.heap.Ns mainGlobals mg) (bns : s₁.heap.Ns builtinsNs nb) (bbs : ∀ x : Str, x ≠ "__name__" → nb x = bootBuiltins x) (lim : s₁.heap.NoLimit) (gen : s₁.gens = #[])
    (osc : s₁.heap.get? sc = some { cls := .type "list", data := .seq us.toArray }) (iar : IntsAre us ns) (small : ns.length ≤ sizeLine) (room : Rm k callerA)
    (PF : ∀ base : Heap, K.In base → base.Ns mainGlobals mg → Fok P w K mg base k fa fd [x] sp) (bnd : ∀ (s : Shared) (u : Value), BindsTo s fd ⟨[u], []⟩ [(x, u)])
    (ask : ∀ H : Hp, Only H → SqL K H sc (ns.map V.int) → sp [.ref sc] H (fun v _ => v = .bl true) fun _ _ _ => False) :
    codeAny (model P w) callerA (.call (.ref fa) ⟨[.ref sc], []⟩) (fun r t => r = .ok (.ret (.bool true)) ∧ OldK s₁.heap t.heap ∧ t.os = s₁.os ∧ AllBare t.gens) s₁ := by
  have rvs := vals_ints iar
  have len := iar.length
  have main : ∀ H : Hp, Only H → SqL K H sc (ns.map V.int) → HOk P w H s₁.heap → (∀ b, H b ≠ none → b = sc) → (H sc ≠ none → K.lookup sc = none) →
      codeAny (model P w) callerA (.call (.ref fa) ⟨[.ref sc], []⟩) (fun r t => r = .ok (.ret (.bool true)) ∧ OldK s₁.heap t.heap ∧ t.os = s₁.os ∧ AllBare t.gens) s₁ := by
    intro H only sq hok solo wr
    have hid : ∀ {b : Addr} {o : Obj}, s₁.heap.get? b = some o → H b = none → (hidT s₁.heap H).get? b = some o := fun e n => hidT_get e n
    have one : ∀ {b : Addr}, H b ≠ none → b = sc := fun {b} z => solo b z
    have nd : ∀ {b : Addr} {o : Obj} {es : Array DictEntry} {ep : Nat}, s₁.heap.get? b = some o → o.data = .dict es ep → H b = none := by
      intro b o es ep e d
      cases q : H b with
      | none => rfl
      | some u =>
        obtain rfl : b = sc := one (by rw [q]; exact fun z => by cases z)
        rw [osc] at e
        cases e
        have d' : Data.seq us.toArray _ = Data.dict es ep := d
        cases d'
    have nsb : ∀ {b : Addr} {m : Str → Option Value}, s₁.heap.Ns b m → (hidT s₁.heap H).Ns b m := by
      rintro b m ⟨o, es, ep, e, d, r⟩
      exact ⟨o, es, ep, hid e (nd e d), d, r⟩
    have kb : K.In (hidT s₁.heap H) := fun b o e => hid (kin b o e) (by
      cases q : H b with
      | none => rfl
      | some u =>
        obtain rfl : b = sc := one (by rw [q]; exact fun z => by cases z)
        rw [wr (by rw [q]; exact fun z => by cases z)] at e
        cases e)
    obtain ⟨mc, l1, l2⟩ := lim
    have md : Mod K mg (hidT s₁.heap H) := ⟨kb, nsb gns, ⟨nb, nsb bns, bbs⟩, ⟨mc, nsb l1, l2⟩⟩
    have env0 : Env0 P w K mg (hidT s₁.heap H) callerA [] s₁ H := ⟨rfl, md, fun b o e => of_hidT e, Nat.le_of_eq (hidT_size _ _), trivial, fun b hb => absurd (show b ∈ ([] : List Addr) from hb) (by simp), hok, .of_eq gen⟩
    refine codeAny_mono ((PF _ kb (nsb gns)).run callerA [] s₁ H ⟨[.ref sc], []⟩ [.ref sc] [.ref sc] _ _ room env0 (bnd s₁ (.ref sc)) (.cons rfl .nil) (ask H only sq)) ?_
    intro r t ht
    match r, ht with
    | .error e, ht =>
      obtain ⟨_, _, _, _, _, _, _, _, _, _, _, _, z⟩ := ht
      exact z.elim
    | .ok .next, ht => exact False.elim ht
    | .ok .brk, ht => exact False.elim ht
    | .ok .cont, ht => exact False.elim ht
    | .ok (.ret u), ht =>
      obtain ⟨v, H2, os, bare, un, hok2, ru, q⟩ := ht
      obtain rfl : v = .bl true := q
      obtain rfl : u = Value.bool true := ru
      refine ⟨rfl, OldK.of_keep ?_, os, bare⟩
      intro b o e
      cases q : H b with
      | none => exact un.keep b o e q (by intro z; exact absurd (show b ∈ ([] : List Addr) from z) (by simp)) (by simp)
      | some u =>
        rcases only b with z | ⟨ob, xs, z⟩
        · rw [q] at z
          cases z
        · have z2 := un.frzs b ob _ z
          obtain ⟨e1, _⟩ := hok b _ z
          obtain ⟨e2, _⟩ := hok2 b _ z2
          rw [e] at e1
          cases e1
          exact e2
  cases lk : K.lookup sc with
  | some o =>
    have e := kin sc o lk
    rw [osc] at e
    cases e
    exact main (fun _ => none) (fun _ => .inl rfl) (.inr ⟨_, us.toArray, _, lk, rfl, rfl, rfl, by rw [List.size_toArray, len]; exact small, by simpa using rvs⟩) (fun b u z => by cases (show (none : Option HO) = some u from z)) (fun b z => absurd rfl z) fun z => absurd rfl z
  | none =>
    refine main (fun b => if b = sc then some (.frz { cls := .type "list", data := .seq us.toArray } (.lst (ns.map V.int))) else none) (fun b => ?_) (.inl (.inr ⟨{ cls := .type "list", data := .seq us.toArray }, if_pos rfl⟩)) (fun b u z => ?_) (fun b z => ?_) fun _ => lk
    · by_cases h : b = sc
      · exact .inr ⟨_, _, if_pos h⟩
      · exact .inl (if_neg h)
    · by_cases h : b = sc
      · have z' := (if_pos h).symm.trans z
        cases z'
        subst h
        exact ⟨osc, by rw [List.length_map]; exact small, us, _, rvs, osc⟩
      · have z' := (if_neg h).symm.trans z
        cases z'
    · by_cases h : b = sc
      · exact h
      · exact absurd (if_neg h) z
/-- a law's row by the interpreter's own: its def answers True on every script -/
theorem walk_run {l : PySem.W.OpenLaw} {n : Nat} {q : Program} {loose : List Str} {XP : (Str → Option Value) → Heap → Prop} {YP : World → Heap → Prop} {d : DefRec} {U : Nat → Option Def} {f k : Nat} {x : Str}
    (hn : l.most = some n) (hn2 : n ≤ sizeLine) (hdf : d.params.defaults = []) (hr : Room k callerA)
    (F : ∀ (w : World) (mg : Str → Option Value) (fa : Addr) (h : Heap), YP w h → h.Ns mainGlobals mg → mg d.name = some (.ref fa) →
      ∃ (K : PySem.W.Frag) (fd : FuncData) (ca : Nat → Addr), K.In h ∧ (∀ (s : Shared) (u : Value), BindsTo s fd ⟨[u], []⟩ [(x, u)]) ∧
        ∀ base : Heap, K.In base → base.Ns mainGlobals mg → Fok l.prog w K mg base k fa fd [x] (spD ⟨l.prog, w, K, mg, base, ca⟩ U k f))
    (law : ∀ ns : List Int, ns.length ≤ n → ∃ h', callD U k f [.scr ns] [] = .ok (.bl true) h') :
    PySem.W.WalkO q loose XP YP l.row.toRowW d [] (fun f vs => PySem.call f vs) := by
  refine Att.attach_call hn hdf fun w s₀ s₁ mg nb fa o pm cd doc sc us ns G Y ho hd hcd hmg hobj hints hlen hg => ?_
  obtain ⟨K, fd, ca, KX, hb, hF⟩ := F w mg fa _ Y G.T.g hmg
  -- a promise that names no base
  let sp : Sp := fun vs H Q E => ∀ base : Heap, K.In base → base.Ns mainGlobals mg → spD ⟨l.prog, w, K, mg, base, ca⟩ U k f vs H Q E
  have PF : ∀ base : Heap, K.In base → base.Ns mainGlobals mg → Fok l.prog w K mg base k fa fd [x] sp := fun base h1 h2 =>
    ⟨fun vs H Q E q => (hF base h1 h2).len vs H Q E (q base h1 h2), fun A out s H args us vs Q E r e b v q => (hF base h1 h2).run A out s H args us vs Q E r e b v (q base h1 h2)⟩
  refine law_run KX G.T.g G.T.b G.T.builtins G.T.nolimit hg hobj hints (Nat.le_trans hlen hn2) (rm_caller hr) PF hb fun H only sq base h1 h2 => ?_
  obtain ⟨h', e⟩ := law ns hlen
  rcases sq with rd | wr
  · refine ⟨fun a => a = sc ∧ H a ≠ none, [], [], [.scr ns], ⟨rfl, List.Pairwise.nil, fun n o a z => by simp at z, fun a z => by simp at z, fun a z => by simp at z, fun a z => z.2⟩, ⟨_, _, rfl, ⟨sc, rfl, .inl ⟨⟨rfl, ?_⟩, rd⟩⟩, rfl⟩, ?_⟩
    · rcases rd with z | ⟨o, z⟩ <;> rw [z] <;> exact fun y => by cases y
    · rw [e]
      intro F' μ' H' y _ _ ry
      exact ry
  · refine ⟨fun _ => False, [], [], [.scr ns], ⟨rfl, List.Pairwise.nil, fun n o a z => by simp at z, fun a z => by simp at z, fun a z => by simp at z, fun a z => z.elim⟩, ⟨_, _, rfl, ⟨sc, rfl, .inr fun H' => .inr wr⟩, rfl⟩, ?_⟩
    rw [e]
    intro F' μ' H' y _ _ ry
    exact ry
/-! ### the head: the library's facts of defs, getters of properties, and a word of one's own -/
/-- where the getter of a class's property stands -/
def pAd (K : PySem.W.Frag) (x m : Str) : Addr := match PySem.W.recIn K (He.ma K (He.ga K x) m) "property" with
  | some (.ref g :: _) => g
  | _ => 0
structure PrD where
  cls : Str
  nm : Str
  qual : Str
  params : Arguments
  body : List Stmt
  scope : Scope
def PrD.val (d : PrD) : He.FnW := some (d.nm, d.qual, d.params, .stmts d.body, d.scope, mainGlobals, [], builtinsNs)
def fnAt (K : PySem.W.Frag) (a : Addr) : He.FnW := match K.lookup a with
  | some ⟨_, _, .func d, _⟩ => some (d.name, d.qualname, d.params, d.body, d.scope, d.globals, d.closure, d.builtins)
  | _ => none
def PrD.ok (K : PySem.W.Frag) (d : PrD) : Bool := He.eqO (PySem.W.findIn K (.ref (He.ga K d.cls)) d.nm) (some (some (.ref (He.ma K (He.ga K d.cls) d.nm)))) &&
  (He.eqO (PySem.W.specialIn K (.ref (He.ma K (He.ga K d.cls) d.nm)) "__get__") (some (some (.builtin "property.__get__"))) &&
  (decide (PySem.W.takesIn K (.ref (He.ma K (He.ga K d.cls) d.nm)) = some true) &&
  ((match PySem.W.recIn K (He.ma K (He.ga K d.cls) d.nm) "property" with
    | some (.ref _ :: _) => true
    | _ => false) &&
  (PySem.W.keepIn K (.ref (pAd K d.cls d.nm)) && (match K.lookup (pAd K d.cls d.nm) with
    | some ⟨_, _, .func f, _⟩ => PySem.W.codeIn K f.code d.qual && (He.dflB K f.defaults [] && He.kwdB K f.kwdefaults [])
    | _ => false)))))
theorem PrD.prop {K : PySem.W.Frag} {d : PrD} (h : d.ok K = true) : PropOf K (He.ga K d.cls) d.nm (He.ma K (He.ga K d.cls) d.nm) (pAd K d.cls d.nm) := by
  obtain ⟨h1, h⟩ := and2 h
  obtain ⟨h2, h⟩ := and2 h
  obtain ⟨h3, h⟩ := and2 h
  obtain ⟨h4, h⟩ := and2 h
  refine ⟨He.eqO_ok h1, He.eqO_ok h2, of_decide_eq_true h3, ?_⟩
  unfold pAd
  cases e : PySem.W.recIn K (He.ma K (He.ga K d.cls) d.nm) "property" with
  | none => rw [e] at h4; cases h4
  | some l =>
    rw [e] at h4
    cases l with
    | nil => cases h4
    | cons v r =>
      cases v with
      | ref g => exact ⟨r, rfl⟩
      | _ => cases h4
theorem PrD.fun_ {K : PySem.W.Frag} {d : PrD} (h : d.ok K = true) (e : fnAt K (pAd K d.cls d.nm) = d.val) : ∃ fd, FunD K d.nm d.qual d.params d.body d.scope [] [] (pAd K d.cls d.nm) fd := by
  obtain ⟨_, h⟩ := and2 h
  obtain ⟨_, h⟩ := and2 h
  obtain ⟨_, h⟩ := and2 h
  obtain ⟨_, h⟩ := and2 h
  obtain ⟨hkp, h⟩ := and2 h
  unfold fnAt at e
  cases q : K.lookup (pAd K d.cls d.nm) with
  | none => rw [q] at h; cases h
  | some o =>
    obtain ⟨oc, od, dt, osl⟩ := o
    rw [q] at h e
    cases dt with
    | func fd =>
      obtain ⟨m1, m2, m3, m4, m5, m6, m7, m8, m9, m10, m11, m12, m13, m14, m15⟩ := fd
      have e2 : (some (m1, m2, m3, m4, m5, m6, m7, m15) : He.FnW) = some (d.nm, d.qual, d.params, .stmts d.body, d.scope, mainGlobals, [], builtinsNs) := e
      simp only [Option.some.injEq, Prod.mk.injEq] at e2
      obtain ⟨t1, t2, t3, t4, t5, t6, t7, t8⟩ := e2
      subst t1 t2 t3 t4 t5 t6 t7 t8
      obtain ⟨k1, k2⟩ := and2 (show (PySem.W.codeIn K m13 d.qual && (He.dflB K m8 [] && He.kwdB K m9 [])) = true from h)
      obtain ⟨k3, k4⟩ := and2 k2
      exact ⟨_, ⟨⟨oc, od, m8, m9, m10, m11, m12, m13, m14, osl, rfl, q, k1, He.dflB_ok k3, He.kwdB_ok k4⟩, hkp⟩⟩
    | _ => cases h
/-- what is asked of an own class -/
def ownB (K : PySem.W.Frag) (x : Str) : Bool := (He.Fa.cls x).ok K && (He.eqO (PySem.W.findIn K (.ref (He.ga K x)) "__class__") (some (some (.builtin "object.__class__"))) &&
  (He.eqO (PySem.W.specialIn K (.builtin "object.__class__") "__get__") (some (some (.builtin "getset_descriptor.__get__"))) && (decide (PySem.W.takesIn K (.builtin "object.__class__") = some true) &&
  (decide (PySem.W.mroIn K (He.ga K x) (.type "object") = some true) && (["NoneType", "bool", "int", "str", "tuple", "list", "dict"] : List String).all fun T => decide (PySem.W.kitOne K (.type T) (.ref (He.ga K x)) = some false)))))
theorem ownB_ok {K : PySem.W.Frag} {x : Str} (h : ownB K x = true) : OwnC K (He.ga K x) := by
  obtain ⟨h1, h⟩ := and2 h
  obtain ⟨h2, h⟩ := and2 h
  obtain ⟨h3, h⟩ := and2 h
  obtain ⟨h4, h⟩ := and2 h
  obtain ⟨h5, h⟩ := and2 h
  exact ⟨He.cls_ok h1, He.eqO_ok h2, He.eqO_ok h3, of_decide_eq_true h4, of_decide_eq_true h5, fun T hT => of_decide_eq_true (List.all_eq_true.mp h T hT)⟩
def eqB (K : PySem.W.Frag) (x : Str) : Bool := He.eqO (PySem.W.findIn K (.ref (He.ga K x)) "__ne__") (some (some (.builtin "object.__ne__")))
theorem eqB_ok {K : PySem.W.Frag} {x : Str} (h1 : ownB K x = true) (h2 : (He.Fa.meth x "__eq__").ok K = true) (h3 : eqB K x = true) : OwnEq K (He.ga K x) (He.ma K (He.ga K x) "__eq__") := by
  have m := He.meth_ok h2
  exact ⟨ownB_ok h1, m.at_, m.fn, He.eqO_ok h3⟩
abbrev AlE : Type := He.AlD × List He.FnW × Bool
def obsE (n : Nat) (fa : List He.Fa) (fn : List He.DefD) (pr : List PrD) (ex : PySem.W.Frag → Bool) (g : Addr → Option Obj) : AlE := (He.obsD fa fn (He.frG g (He.asD g n)), pr.map fun d => fnAt (He.frG g (He.asD g n)) (pAd (He.frG g (He.asD g n)) d.cls d.nm), (pr.all fun d => d.ok (He.frG g (He.asD g n))) && ex (He.frG g (He.asD g n)))
structure SaysE (fa : List He.Fa) (fn : List He.DefD) (pr : List PrD) (ex : PySem.W.Frag → Bool) (K : PySem.W.Frag) : Prop where
  says : He.SaysD fa fn K
  prs : (pr.map fun d => fnAt K (pAd K d.cls d.nm)) = pr.map PrD.val
  oks : (pr.all fun d => d.ok K) = true
  ex : ex K = true
theorem SaysE.pr {fa : List He.Fa} {fn : List He.DefD} {pr : List PrD} {ex : PySem.W.Frag → Bool} {K : PySem.W.Frag} (c : SaysE fa fn pr ex K) {d : PrD} (hd : d ∈ pr) : PropOf K (He.ga K d.cls) d.nm (He.ma K (He.ga K d.cls) d.nm) (pAd K d.cls d.nm) ∧ ∃ fd, FunD K d.nm d.qual d.params d.body d.scope [] [] (pAd K d.cls d.nm) fd := by
  have h := List.all_eq_true.mp c.oks d hd
  obtain ⟨i, hi, e⟩ := List.mem_iff_getElem.mp hd
  have e1 : (pr.map fun d => fnAt K (pAd K d.cls d.nm))[i]? = (pr.map PrD.val)[i]? := by rw [c.prs]
  rw [List.getElem?_map, List.getElem?_map, List.getElem?_eq_getElem hi, e] at e1
  exact ⟨PrD.prop h, PrD.fun_ h (Option.some.inj e1)⟩
def hookE (n : Nat) (fa : List He.Fa) (fn : List He.DefD) (pr : List PrD) (ex : PySem.W.Frag → Bool) : PySem.W.Hook where
  α := AlE
  obs := fun s => obsE n fa fn pr ex s.heap.get?
  val := fun _ => (He.valD fn, pr.map PrD.val, true)
  says := fun _ h => ∃ K : PySem.W.Frag, K.In h ∧ SaysE fa fn pr ex K
  of := fun _ _ e => ⟨_, He.frG_in, congrArg Prod.fst e, congrArg (fun z : AlE => z.2.1) e, (and2 (congrArg (fun z : AlE => z.2.2) e)).1, (and2 (congrArg (fun z : AlE => z.2.2) e)).2⟩
  keeps := fun _ _ _ ⟨K, hK, c⟩ k => ⟨K, PySem.W.Frag.In.keeps hK k, c⟩
theorem obsE_eq {n : Nat} {fa : List He.Fa} {fn : List He.DefD} {pr : List PrD} {ex : PySem.W.Frag → Bool} {g : Addr → Option Obj} {s : Shared} (h : ∀ a, g a = s.heap.get? a) : obsE n fa fn pr ex g = (hookE n fa fn pr ex).obs s := by
  have e : g = s.heap.get? := funext h
  rw [e]
  rfl
/-! ### a def's scope -/
def scopeB (N ps : List Str) (sc : Scope) : Bool := decide (sc.kind = .function) && !sc.isCoroutine && !sc.isGenerator && decide N.Nodup && decide (N.take ps.length = ps) && ps.all (fun x => locB sc x) && sc.names.all fun y => decide (y.2 ≠ .free)
theorem scopeB_ok {N ps : List Str} {sc : Scope} (h : scopeB N ps sc = true) : FnScope N ps sc := by
  unfold scopeB at h
  obtain ⟨h, h7⟩ := and2 h
  obtain ⟨h, h6⟩ := and2 h
  obtain ⟨h, h5⟩ := and2 h
  obtain ⟨h, h4⟩ := and2 h
  obtain ⟨h, h3⟩ := and2 h
  obtain ⟨h, h2⟩ := and2 h
  refine ⟨of_decide_eq_true h, by simpa using h2, by simpa using h3, of_decide_eq_true h4, of_decide_eq_true h5, fun x hx => ?_, fun y hy => of_decide_eq_true (List.all_eq_true.mp h7 y hy)⟩
  have z : locB sc x = true := List.all_eq_true.mp h6 x hx
  unfold locB at z
  cases e : sc.names.lookup x with
  | none => rw [e] at z; cases z
  | some kd =>
    rw [e] at z
    cases kd with
    | «local» => exact .inl rfl
    | cell => exact .inr rfl
    | free => cases z
    | globalExplicit => cases z
    | globalImplicit => cases z
theorem lookup_mem {α β : Type} [BEq α] [LawfulBEq α] : ∀ {l : List (α × β)} {a : α} {b : β}, l.lookup a = some b → (a, b) ∈ l
  | (c, d) :: l, a, b, h => by
    rw [List.lookup_cons] at h
    by_cases e : (a == c) = true
    · rw [e] at h
      cases h
      rw [eq_of_beq e]
      exact List.mem_cons_self
    · have e' : (a == c) = false := by simpa using e
      rw [e'] at h
      exact List.mem_cons_of_mem _ (lookup_mem h)
end Pyi
set_option Elab.async false
set_option linter.all false
set_option maxRecDepth 100000
set_option maxHeartbeats 1000000
/-! The interpreter run step by step: equations for simp; what a loop's turn does keeps a name of its own. -/
namespace Pyi
open PySem
section
variable {cf : Nat → List Val → Hs → Out Val} {env : Env} {h : Hs}
/-! ### turns -/
def turnF (cf : Nat → List Val → Hs → Out Val) (tg : Tg) (b : List S) : Val → Env → Hs → OutS := fun x env h => (ofOpt (bindT tg x env) h).toS fun env' h => evSs cf b env' h
def condW (cf : Nat → List Val → Hs → Out Val) (c : E) : Env → Hs → Out Bool := fun env h => (evE cf c env h).bind fun x h => ofOpt (asB x) h
def turnW (cf : Nat → List Val → Hs → Out Val) (b : List S) : Env → Hs → OutS := fun env h => evSs cf b env h
def turnC (cf : Nat → List Val → Hs → Out Val) (env : Env) (tg : Tg) (cs : List E) (e : E) : Val → Hs → Out (Option Val) := fun x h =>
  (ofOpt (bindT tg x (wipeE env tg.slots)) h).bind fun env' h => (evC cf cs env' h).bind fun b h => keepIf b (evE cf e env' h) h
def turnD (cf : Nat → List Val → Hs → Out Val) (env : Env) (tg : Tg) (k : E) : Val → Hs → Out (Option Val) := fun x h =>
  (ofOpt (bindT tg x (wipeE env tg.slots)) h).bind fun env' h => (evE cf k env' h).bind fun y h => if keyT y then .ok (some y) h else .bad
theorem turnF_eq {tg : Tg} {b : List S} {x : Val} : turnF cf tg b x env h = (ofOpt (bindT tg x env) h).toS fun env' h => evSs cf b env' h := rfl
theorem condW_eq {c : E} : condW cf c env h = (evE cf c env h).bind fun x h => ofOpt (asB x) h := rfl
theorem turnW_eq {b : List S} : turnW cf b env h = evSs cf b env h := rfl
theorem turnC_eq {tg : Tg} {cs : List E} {e : E} {x : Val} : turnC cf env tg cs e x h = (ofOpt (bindT tg x (wipeE env tg.slots)) h).bind fun env' h => (evC cf cs env' h).bind fun b h => keepIf b (evE cf e env' h) h := rfl
theorem turnD_eq {tg : Tg} {k : E} {x : Val} : turnD cf env tg k x h = (ofOpt (bindT tg x (wipeE env tg.slots)) h).bind fun env' h => (evE cf k env' h).bind fun y h => if keyT y then .ok (some y) h else .bad := rfl
/-! ### expressions -/
@[simp] theorem ofOpt_some {α : Type} {a : α} : ofOpt (some a) h = .ok a h := rfl
@[simp] theorem ofOpt_none {α : Type} : ofOpt (none : Option α) h = .bad := rfl
@[simp] theorem e_lit {l : Lit} : evE cf (.lit l) env h = .ok l.val h := rfl
@[simp] theorem e_glb {x : Str} {l : Lit} : evE cf (.glb x l) env h = .ok l.val h := rfl
@[simp] theorem e_var {i : Nat} : evE cf (.var i) env h = ofOpt (varV env i) h := rfl
@[simp] theorem e_bin {o : BOp} {a b : E} : evE cf (.bin o a b) env h = (evE cf a env h).bind fun x h => (evE cf b env h).bind fun y h => ofOpt (binop o x y) h := rfl
@[simp] theorem e_neg {a : E} : evE cf (.neg a) env h = (evE cf a env h).bind fun x h => ofOpt ((asI x).map fun i => .int (-i)) h := rfl
@[simp] theorem e_not {a : E} : evE cf (.not_ a) env h = (evE cf a env h).bind fun x h => (ofOpt (asB x) h).bind fun b h => .ok (.bl (!b)) h := rfl
@[simp] theorem e_and {a b : E} : evE cf (.and_ a b) env h = (evE cf a env h).bind fun x h => (ofOpt (asB x) h).bind fun c h =>
  if c then (evE cf b env h).bind fun y h => (ofOpt (asB y) h).bind fun d h => .ok (.bl d) h else .ok (.bl false) h := rfl
@[simp] theorem e_or {a b : E} : evE cf (.or_ a b) env h = (evE cf a env h).bind fun x h => (ofOpt (asB x) h).bind fun c h =>
  if c then .ok (.bl true) h else (evE cf b env h).bind fun y h => (ofOpt (asB y) h).bind fun d h => .ok (.bl d) h := rfl
@[simp] theorem e_ite {c a b : E} : evE cf (.ite c a b) env h = (evE cf c env h).bind fun x h => (ofOpt (asB x) h).bind fun c h => if c then evE cf a env h else evE cf b env h := rfl
@[simp] theorem e_cmp {o : COp} {a b : E} : evE cf (.cmp o a b) env h = (evE cf a env h).bind fun x h => (evE cf b env h).bind fun y h => ofOpt ((cmpop o x y).map .bl) h := rfl
@[simp] theorem e_chn {o p : COp} {a b c : E} : evE cf (.chn o p a b c) env h = (evE cf a env h).bind fun x h => (evE cf b env h).bind fun y h => (ofOpt (cmpop o x y) h).bind fun t h =>
  if t then (evE cf c env h).bind fun z h => ofOpt ((cmpop p y z).map .bl) h else .ok (.bl false) h := rfl
@[simp] theorem e_tup {es : List E} : evE cf (.tup es) env h = (evEs cf es env h).bind fun vs h => .ok (.tup vs) h := rfl
@[simp] theorem e_idx {a i : E} : evE cf (.idx a i) env h = (evE cf a env h).bind fun x h => (evE cf i env h).bind fun y h => ofOpt (getH h x y) h := rfl
@[simp] theorem e_slc {a : E} {lo hi : Option E} : evE cf (.slc a lo hi) env h = (evE cf a env h).bind fun x h => (evO cf lo env h).bind fun l h => (evO cf hi env h).bind fun u h => ofOpt (getS x l u) h := rfl
@[simp] theorem e_rev {a : E} : evE cf (.rev a) env h = (evE cf a env h).bind fun x h => ofOpt (getR x) h := rfl
@[simp] theorem e_call {f : Nat} {es : List E} {ds : List Lit} : evE cf (.call f es ds) env h = (evEs cf es env h).bind fun vs h => cf f (vs ++ ds.map Lit.val) h := rfl
@[simp] theorem e_bi {b : Bi} {es : List E} : evE cf (.bi b es) env h = (evEs cf es env h).bind fun vs h => ofOpt (bicall b vs) h := rfl
@[simp] theorem e_isi {a : E} {t : Ty} : evE cf (.isi a t) env h = (evE cf a env h).bind fun x h => ofOpt ((isiOf x t).map .bl) h := rfl
@[simp] theorem e_fr {f : FE} : evE cf (.fr f) env h = (evF cf f env h).bind fun vs h => .ok (.lst vs) h := rfl
@[simp] theorem e_mk {f : FE} : evE cf (.mk f) env h = (evF cf f env h).bind fun vs h => .ok (.ref h.length) (h ++ [.lst vs]) := rfl
@[simp] theorem e_olen {i : Nat} : evE cf (.olen i) env h = (ofOpt (ownL env i) h).bind fun vs h => .ok (.int vs.length) h := rfl
@[simp] theorem e_oidx {i : Nat} {e : E} : evE cf (.oidx i e) env h = (ofOpt (ownL env i) h).bind fun vs h => (evE cf e env h).bind fun y h => ofOpt ((asI y).bind fun k => atI vs k) h := rfl
@[simp] theorem e_lenDC {k : E} {tg : Tg} {it : It} : evE cf (.lenDC k tg it) env h = (evIt cf it env h).bind fun xs h =>
  if decide (xs.length ≤ most) then (mapF (turnD cf env tg k) xs h).bind fun ks h => .ok (.int (firstKs [] ks).length) h else .bad := rfl
@[simp] theorem e_fld {a : E} {x : Str} : evE cf (.fld a x) env h = (evE cf a env h).bind fun v h => ofOpt (fldV v x) h := rfl
@[simp] theorem e_prop {n : Nat} {a : E} : evE cf (.prop n a) env h = (evE cf a env h).bind fun v h => nx (cf n [v] h) := rfl
@[simp] theorem e_meth {n : Nat} {a : E} {es : List E} {ds : List Lit} : evE cf (.meth n a es ds) env h = (evE cf a env h).bind fun v h => (nx (evEs cf es env h)).bind fun vs h => cf n (v :: (vs ++ ds.map Lit.val)) h := rfl
@[simp] theorem e_new {n : Nat} {es : List E} {ds : List Lit} : evE cf (.new n es ds) env h = (evEs cf es env h).bind fun vs h => cf n (vs ++ ds.map Lit.val) h := rfl
@[simp] theorem es_nil : evEs cf [] env h = .ok [] h := rfl
theorem es_cons0 {e : E} {es : List E} : evEs cf (e :: es) env h = (evE cf e env h).bind fun x h => (ofOpt (spl (isStarE e) x) h).bind fun xs h => (evEs cf es env h).bind fun r h => .ok (xs ++ r) h := rfl
@[simp] theorem es_star {e : E} {es : List E} : evEs cf (.star e :: es) env h = (evE cf e env h).bind fun x h => (ofOpt (itemsOf x) h).bind fun xs h => (evEs cf es env h).bind fun r h => .ok (xs ++ r) h := rfl
theorem es_cons1 {e : E} {es : List E} (hs : isStarE e = false) : evEs cf (e :: es) env h = (evE cf e env h).bind fun x h => (evEs cf es env h).bind fun r h => .ok (x :: r) h := by
  rw [es_cons0, hs]
  rfl
theorem es_cons {e : E} {es : List E} (hs : isStarE e = false) : evEs cf (e :: es) env h = (evE cf e env h).bind fun x h => (evEs cf es env h).bind fun r h => .ok (x :: r) h := es_cons1 hs
@[simp] theorem o_none : evO cf none env h = .ok none h := rfl
@[simp] theorem o_some {e : E} : evO cf (some e) env h = (evE cf e env h).bind fun x h => (ofOpt (asI x) h).bind fun i h => .ok (some i) h := rfl
@[simp] theorem f_lst {es : List E} : evF cf (.lst es) env h = evEs cf es env h := rfl
@[simp] theorem f_of {e : E} : evF cf (.of e) env h = (evE cf e env h).bind fun x h => ofOpt (itemsOf x) h := rfl
@[simp] theorem f_ofIt {it : It} : evF cf (.ofIt it) env h = (evIt cf it env h).bind fun xs h => if decide (xs.length ≤ most) then .ok xs h else .bad := rfl
@[simp] theorem f_items {i : Nat} : evF cf (.items i) env h = (ofOpt (ownDL env i) h).bind fun d h => .ok (zipV d.1 d.2) h := rfl
@[simp] theorem f_cat {a b : E} : evF cf (.cat a b) env h = (evE cf a env h).bind fun x h => (evE cf b env h).bind fun y h => match x, y with
    | .lst xs, .lst ys => if xs.length + ys.length ≤ most then .ok (xs ++ ys) h else .bad
    | _, _ => .bad := rfl
@[simp] theorem f_comp {e : E} {tg : Tg} {it : It} {cs : List E} : evF cf (.comp e tg it cs) env h = (evIt cf it env h).bind fun xs h => if decide (xs.length ≤ most) then mapF (turnC cf env tg cs e) xs h else .bad := rfl
@[simp] theorem c_nil : evC cf [] env h = .ok true h := rfl
@[simp] theorem c_cons {c : E} {cs : List E} : evC cf (c :: cs) env h = (evE cf c env h).bind fun x h => (ofOpt (asB x) h).bind fun b h => if b then evC cf cs env h else .ok false h := rfl
@[simp] theorem i_seq {e : E} : evIt cf (.seq e) env h = (evE cf e env h).bind fun x h => ofOpt (walksOf x) h := rfl
@[simp] theorem wk_t {vs : List Val} : walksOf (.tup vs) = some vs := rfl
@[simp] theorem wk_l {vs : List Val} : walksOf (.lst vs) = some vs := rfl
@[simp] theorem wk_s {x : Str} : walksOf (.str x) = some (signsOf x) := rfl
@[simp] theorem i_enum {e : E} : evIt cf (.enum e) env h = (evE cf e env h).bind fun x h => (ofOpt (lstOf x) h).bind fun xs h => .ok (enumV 0 xs) h := rfl
@[simp] theorem i_zip {a b : E} : evIt cf (.zip a b) env h = (evE cf a env h).bind fun x h => (evE cf b env h).bind fun y h => (ofOpt (twoOf x y) h).bind fun p h => .ok (zipV p.1 p.2) h := rfl
@[simp] theorem e_star {a : E} : evE cf (.star a) env h = evE cf a env h := rfl
@[simp] theorem star_no0 {e : E} : isStarE (.star e) = true := rfl
@[simp] theorem i_rng1 {b : E} : evIt cf (.rng1 b) env h = (evE cf b env h).bind fun x h => (ofOpt (asI x) h).bind fun j h => if rgOk j then .ok (rngV 0 j.toNat) h else .bad := rfl
@[simp] theorem i_rng2 {a b : E} : evIt cf (.rng2 a b) env h = (evE cf a env h).bind fun x h => (evE cf b env h).bind fun y h => (ofOpt (asI x) h).bind fun i h => (ofOpt (asI y) h).bind fun j h =>
  if rgOk i && rgOk j then .ok (rngV i (j - i).toNat) h else .bad := rfl
@[simp] theorem keep_t {m : Out Val} : keepIf true m h = m.bind fun y h => .ok (some y) h := rfl
@[simp] theorem keep_f {m : Out Val} : keepIf false m h = .ok none h := rfl
/-! ### values -/
@[simp] theorem lv_non : Lit.non.val = Val.non := rfl
@[simp] theorem lv_bl {b : Bool} : (Lit.bl b).val = Val.bl b := rfl
@[simp] theorem lv_int {i : Int} : (Lit.int i).val = Val.int i := rfl
@[simp] theorem lv_str {x : Str} : (Lit.str x).val = Val.str x := rfl
@[simp] theorem asB_bl {b : Bool} : asB (.bl b) = some b := rfl
@[simp] theorem asI_int {i : Int} : asI (.int i) = some i := rfl
@[simp] theorem var_0 {x : Val} {r : Env} : varV (some (.v x) :: r) 0 = some x := rfl
@[simp] theorem var_s {s : Option Slot} {r : Env} {n : Nat} : varV (s :: r) (n + 1) = varV r n := rfl
@[simp] theorem own_0 {x : List Val} {r : Env} : ownL (some (.own x) :: r) 0 = some x := rfl
@[simp] theorem own_s {s : Option Slot} {r : Env} {n : Nat} : ownL (s :: r) (n + 1) = ownL r n := rfl
@[simp] theorem ownD_0 {x y : List Val} {r : Env} : ownDL (some (.ownD x y) :: r) 0 = some (x, y) := rfl
@[simp] theorem ownD_s {s : Option Slot} {r : Env} {n : Nat} : ownDL (s :: r) (n + 1) = ownDL r n := rfl
@[simp] theorem b_addI {i j : Int} : binop .add (.int i) (.int j) = some (.int (i + j)) := rfl
@[simp] theorem b_addB {i : Int} {b : Bool} : binop .add (.int i) (.bl b) = some (.int (i + if b then 1 else 0)) := rfl
@[simp] theorem b_subI {i j : Int} : binop .sub (.int i) (.int j) = some (.int (i - j)) := rfl
theorem b_mul {i j : Int} (h1 : sm i = true) (h2 : sm j = true) : binop .mul (.int i) (.int j) = some (.int (i * j)) := by
  show (if sm i && sm j then some (Val.int (i * j)) else none) = _
  rw [h1, h2]
  rfl
theorem b_fdiv {i j : Int} (h1 : 0 < j) (h2 : j < 2 ^ 9000) : binop .fdiv (.int i) (.int j) = some (.int (i / j)) := by
  show (if decide (0 < j) && decide (j < 2 ^ 9000) then some (Val.int (i / j)) else none) = _
  rw [decide_eq_true h1, decide_eq_true h2]
  rfl
theorem b_mod {i j : Int} (h1 : 0 < j) : binop .mod (.int i) (.int j) = some (.int (i % j)) := by
  show (if decide (0 < j) then some (Val.int (i % j)) else none) = _
  rw [decide_eq_true h1]
  rfl
theorem b_pow {i j : Int} (h0 : 0 ≤ j) (h1 : j ≤ 100) (h2 : i.natAbs < 2 ^ 100000) : binop .pow (.int i) (.int j) = some (.int (i ^ j.toNat)) := by
  show (if decide (0 ≤ j) && (decide (j ≤ 100) && decide (i.natAbs < 2 ^ 100000)) then some (Val.int (i ^ j.toNat)) else none) = _
  rw [decide_eq_true h0, decide_eq_true h1, decide_eq_true h2]
  rfl
@[simp] theorem c_lt {i j : Int} : cmpop .lt (.int i) (.int j) = some (decide (i < j)) := rfl
@[simp] theorem c_le {i j : Int} : cmpop .le (.int i) (.int j) = some (decide (i ≤ j)) := rfl
@[simp] theorem c_gt {i j : Int} : cmpop .gt (.int i) (.int j) = some (decide (j < i)) := rfl
@[simp] theorem c_ge {i j : Int} : cmpop .ge (.int i) (.int j) = some (decide (j ≤ i)) := rfl
@[simp] theorem c_isN {v : Val} : cmpop .is_ v .non = some (isNon v) := by cases v <;> rfl
@[simp] theorem c_isnotN {v : Val} : cmpop .isnot v .non = some (!isNon v) := by cases v <;> rfl
@[simp] theorem non_i {i : Int} : isNon (.int i) = false := rfl
@[simp] theorem non_n : isNon .non = true := rfl
@[simp] theorem non_t {vs : List Val} : isNon (.tup vs) = false := rfl
@[simp] theorem non_l {vs : List Val} : isNon (.lst vs) = false := rfl
@[simp] theorem non_s {x : Str} : isNon (.str x) = false := rfl
/-- data that == takes as it is -/
def plainV (v : Val) : Bool := eqOk v && strsOk v
theorem c_eq {v w : Val} (h1 : plainV v = true) (h2 : plainV w = true) : cmpop .eq v w = some (veq v w) := by
  unfold plainV at h1 h2
  rw [Bool.and_eq_true] at h1 h2
  have e : cmpop .eq v w = if eqOk v && eqOk w && (strsOk v && strsOk w) then some (veq v w) else none := by cases v <;> cases w <;> rfl
  rw [e, h1.1, h2.1, h1.2, h2.2]
  rfl
theorem c_ne {v w : Val} (h1 : plainV v = true) (h2 : plainV w = true) : cmpop .ne v w = some (!veq v w) := by
  unfold plainV at h1 h2
  rw [Bool.and_eq_true] at h1 h2
  have e : cmpop .ne v w = if eqOk v && eqOk w && (strsOk v && strsOk w) then some (!veq v w) else none := by cases v <;> cases w <;> rfl
  rw [e, h1.1, h2.1, h1.2, h2.2]
  rfl
@[simp] theorem c_eqI {i j : Int} : cmpop .eq (.int i) (.int j) = some (i == j) := rfl
@[simp] theorem c_neI {i j : Int} : cmpop .ne (.int i) (.int j) = some (!(i == j)) := rfl
@[simp] theorem plain_i {i : Int} : plainV (.int i) = true := rfl
@[simp] theorem plain_b {b : Bool} : plainV (.bl b) = true := rfl
@[simp] theorem plain_n : plainV .non = true := rfl
@[simp] theorem it_t {vs : List Val} : itemsOf (.tup vs) = some vs := rfl
@[simp] theorem it_l {vs : List Val} : itemsOf (.lst vs) = some vs := rfl
@[simp] theorem g_t {vs : List Val} {i : Int} : getH h (.tup vs) (.int i) = atI vs i := rfl
@[simp] theorem g_l {vs : List Val} {i : Int} : getH h (.lst vs) (.int i) = atI vs i := rfl
@[simp] theorem g_s {ns : List Int} {i : Int} : getH h (.scr ns) (.int i) = (atI ns i).map .int := rfl
@[simp] theorem at_0 {α : Type} {x : α} {r : List α} : atI (x :: r) 0 = some x := by
  unfold atI ixN
  rw [if_pos (by decide), if_pos (by rw [List.length_cons]; omega)]
  rfl
theorem at_n {α : Type} {xs : List α} {n : Nat} (hn : n < xs.length) : atI xs (n : Int) = xs[n]? := by
  unfold atI ixN
  rw [if_pos (by omega), if_pos (by omega)]
  rfl
@[simp] theorem at_1 {α : Type} {x y : α} {r : List α} : atI (x :: y :: r) 1 = some y := at_n (n := 1) (by simp)
@[simp] theorem at_2 {α : Type} {x y z : α} {r : List α} : atI (x :: y :: z :: r) 2 = some z := at_n (n := 2) (by simp)
@[simp] theorem at_3 {α : Type} {x y z u : α} {r : List α} : atI (x :: y :: z :: u :: r) 3 = some u := at_n (n := 3) (by simp)
@[simp] theorem bi_len {v : Val} : bicall .len [v] = lenV v := rfl
@[simp] theorem bi_int {v : Val} : bicall .int_ [v] = intV v := rfl
@[simp] theorem bi_abs {v : Val} : bicall .abs [v] = absV v := rfl
@[simp] theorem bi_str {v : Val} : bicall .str_ [v] = strV v := rfl
@[simp] theorem bi_repr {v : Val} : bicall .repr [v] = (reprOf v).map .str := rfl
@[simp] theorem bi_tuple {v : Val} : bicall .tuple_ [v] = tupV v := rfl
@[simp] theorem bi_sum {v : Val} : bicall .sum [v] = sumV v := rfl
@[simp] theorem bi_all {v : Val} : bicall .all_ [v] = allV v := rfl
@[simp] theorem bi_any {v : Val} : bicall .any_ [v] = anyV v := rfl
@[simp] theorem bi_max {v : Val} : bicall .max_ [v] = maxV v := rfl
@[simp] theorem bi_min {v : Val} : bicall .min_ [v] = minV v := rfl
@[simp] theorem bi_max2 {i j : Int} : bicall .max_ [.int i, .int j] = some (.int (if j > i then j else i)) := rfl
@[simp] theorem bi_min2 {i j : Int} : bicall .min_ [.int i, .int j] = some (.int (if j < i then j else i)) := rfl
@[simp] theorem len_t {vs : List Val} : lenV (.tup vs) = some (.int vs.length) := rfl
@[simp] theorem len_l {vs : List Val} : lenV (.lst vs) = some (.int vs.length) := rfl
@[simp] theorem len_scr {ns : List Int} : lenV (.scr ns) = some (.int ns.length) := rfl
@[simp] theorem int_i {i : Int} : intV (.int i) = some (.int i) := rfl
@[simp] theorem int_b {b : Bool} : intV (.bl b) = some (.int (if b then 1 else 0)) := rfl
@[simp] theorem abs_i {i : Int} : absV (.int i) = some (.int (if i < 0 then -i else i)) := rfl
@[simp] theorem tup_l {vs : List Val} : tupV (.lst vs) = some (.tup vs) := rfl
@[simp] theorem tup_t {vs : List Val} : tupV (.tup vs) = some (.tup vs) := rfl
@[simp] theorem isi_ii {i : Int} : isiOf (.int i) .int = some true := rfl
@[simp] theorem isi_ib {i : Int} : isiOf (.int i) .bool = some false := rfl
@[simp] theorem isi_tt {vs : List Val} : isiOf (.tup vs) .tuple = some true := rfl
@[simp] theorem rev_t {vs : List Val} : getR (.tup vs) = some (.tup vs.reverse) := rfl
@[simp] theorem slc_t {vs : List Val} {lo hi : Option Int} : getS (.tup vs) lo hi = some (.tup (cut vs lo hi)) := rfl
/-! ### targets -/
@[simp] theorem t_v {i : Nat} {x : Val} {e : Env} : bindT (.v i) x e = some (e.set i (some (.v x))) := rfl
@[simp] theorem t_t {l : List Tg} {vs : List Val} {e : Env} : bindT (.t l) (.tup vs) e = bindTs l vs e := rfl
@[simp] theorem t_nil {e : Env} : bindTs [] [] e = some e := rfl
@[simp] theorem t_cons {t : Tg} {ts : List Tg} {v : Val} {vs : List Val} {e : Env} : bindTs (t :: ts) (v :: vs) e = (bindT t v e).bind fun e => bindTs ts vs e := rfl
@[simp] theorem sl_v {i : Nat} : Tg.slots (.v i) = [i] := rfl
@[simp] theorem sl_t {l : List Tg} : Tg.slots (.t l) = Tg.slotss l := rfl
@[simp] theorem sls_nil : Tg.slotss [] = [] := rfl
@[simp] theorem sls_cons {t : Tg} {l : List Tg} : Tg.slotss (t :: l) = t.slots ++ Tg.slotss l := rfl
@[simp] theorem wipe_nil {e : Env} : wipeE e [] = e := rfl
@[simp] theorem wipe_cons {e : Env} {i : Nat} {is : List Nat} : wipeE e (i :: is) = (wipeE e is).set i none := rfl
/-! ### statements -/
@[simp] theorem s_set_ {i : Nat} {e : E} : evS cf (.set i e) env h = (evE cf e env h).toS fun x h => .ok .nxt (env.set i (some (.v x))) h := rfl
@[simp] theorem s_tset_ {tg : Tg} {e : E} : evS cf (.tset tg e) env h = (evE cf e env h).toS fun x h => (ofOpt (bindT tg x env) h).toS fun env' h => .ok .nxt env' h := rfl
@[simp] theorem s_par_ {is : List Nat} {es : List E} : evS cf (.par is es) env h = (evEs cf es env h).toS fun vs h => .ok .nxt (setSlots env is vs) h := rfl
@[simp] theorem s_unK_ {is : List Nat} {x : Str} {ns : List Int} : evS cf (.unK is x ns) env h = .ok .nxt (setSlots env is (ns.map .int)) h := rfl
@[simp] theorem s_own_ {i : Nat} {f : FE} : evS cf (.own i f) env h = (evF cf f env h).toS fun vs h => .ok .nxt (env.set i (some (.own vs))) h := rfl
@[simp] theorem s_ownD_ {i : Nat} : evS cf (.ownD i) env h = .ok .nxt (env.set i (some (.ownD [] []))) h := rfl
@[simp] theorem s_frz_ {i : Nat} : evS cf (.frz i) env h = (ofOpt (ownL env i) h).toS fun vs h => .ok .nxt (env.set i (some (.v (.lst vs)))) h := rfl
@[simp] theorem s_app_ {i : Nat} {e : E} : evS cf (.app i e) env h = (ofOpt (ownL env i) h).toS fun vs h => (evE cf e env h).toS fun x h => if decide (vs.length ≤ most) then .ok .nxt (env.set i (some (.own (vs ++ [x])))) h else .bad := rfl
@[simp] theorem s_setI_ {a i e : E} : evS cf (.setI a i e) env h = (evE cf e env h).toS fun v h => (evE cf a env h).toS fun o h => (evE cf i env h).toS fun k h => (ofOpt (setH h o k v) h).toS fun h' _ => .ok .nxt env h' := rfl
@[simp] theorem s_oset_ {x : Nat} {i e : E} : evS cf (.oset x i e) env h = (ofOpt (ownL env x) h).toS fun vs h => (evE cf e env h).toS fun v h => (evE cf i env h).toS fun k h => (ofOpt ((asI k).bind fun k => ixN vs.length k) h).toS fun j h =>
  .ok .nxt (env.set x (some (.own (vs.set j v)))) h := rfl
@[simp] theorem s_dset_ {x : Nat} {k e : E} : evS cf (.dset x k e) env h = (ofOpt (ownDL env x) h).toS fun d h => (evE cf e env h).toS fun v h => (evE cf k env h).toS fun k h =>
  if keyT k && decide (d.1.length ≤ most) then .ok .nxt (env.set x (some (.ownD (dput d.1 d.2 k v).1 (dput d.1 d.2 k v).2))) h else .bad := rfl
@[simp] theorem s_aug_ {i : Nat} {o : BOp} {e : E} : evS cf (.aug i o e) env h = (ofOpt (varV env i) h).toS fun x h => (evE cf e env h).toS fun y h => (ofOpt (augop o x y) h).toS fun z h => .ok .nxt (env.set i (some (.v z))) h := rfl
@[simp] theorem s_ret_ {e : E} : evS cf (.ret e) env h = (evE cf e env h).toS fun x h => .ok (.ret x) env h := rfl
@[simp] theorem s_retN_ : evS cf .retN env h = .ok (.ret .non) env h := rfl
@[simp] theorem s_if_ {c : E} {a b : List S} : evS cf (.if_ c a b) env h = (evE cf c env h).toS fun x h => (ofOpt (asB x) h).toS fun t h => if t then evSs cf a env h else evSs cf b env h := rfl
@[simp] theorem s_for_ {tg : Tg} {it : It} {b : List S} : evS cf (.for_ tg it b) env h = (evIt cf it env h).toS fun xs h => loopF (turnF cf tg b) xs env h := rfl
@[simp] theorem s_while_ {c : E} {b : List S} : evS cf (.while_ c b) env h = loopW (condW cf c) (turnW cf b) laps env h := rfl
@[simp] theorem s_ex_ {e : E} : evS cf (.ex e) env h = (evE cf e env h).toS fun _ h => .ok .nxt env h := rfl
@[simp] theorem s_pass_ : evS cf .pass env h = .ok .nxt env h := rfl
@[simp] theorem ss_nil : evSs cf [] env h = .ok .nxt env h := rfl
@[simp] theorem ss_cons {s : S} {ss : List S} : evSs cf (s :: ss) env h = (evS cf s env h).bind fun env h => evSs cf ss env h := rfl
@[simp] theorem sl_cons {i : Nat} {is : List Nat} {v : Val} {vs : List Val} {e : Env} : setSlots e (i :: is) (v :: vs) = setSlots (e.set i (some (.v v))) is vs := rfl
@[simp] theorem sl_nil {e : Env} : setSlots e [] [] = e := rfl
@[simp] theorem lf_nil {g : Val → Env → Hs → OutS} : loopF g [] env h = .ok .nxt env h := rfl
@[simp] theorem lf_cons {g : Val → Env → Hs → OutS} {v : Val} {vs : List Val} : loopF g (v :: vs) env h = (g v env h).bind fun env h => loopF g vs env h := rfl
theorem lw_s {c : Env → Hs → Out Bool} {g : Env → Hs → OutS} {n : Nat} : loopW c g (n + 1) env h = (c env h).toS fun b h => if b then (g env h).bind fun env h => loopW c g n env h else .ok .nxt env h := rfl
@[simp] theorem mf_nil {g : Val → Hs → Out (Option Val)} : mapF g [] h = .ok [] h := rfl
@[simp] theorem mf_cons {g : Val → Hs → Out (Option Val)} {v : Val} {vs : List Val} : mapF g (v :: vs) h = (nx (g v h)).bind fun o h => (mapF g vs h).bind fun r h => .ok (consO o r) h := rfl
@[simp] theorem co_some {x : Val} {r : List Val} : consO (some x) r = x :: r := rfl
@[simp] theorem co_none {r : List Val} : consO none r = r := rfl
@[simp] theorem ret_v {v : Val} : retOf (.ok (.ret v) env h) = .ok v h := rfl
@[simp] theorem ret_n : retOf (.ok .nxt env h) = .ok .non h := rfl
/-- all turns of a comprehension alike: none changes anything -/
theorem mapF_pure {g : Val → Hs → Out (Option Val)} {f : Val → Val} : ∀ (xs : List Val), (∀ x ∈ xs, g x h = .ok (some (f x)) h) → mapF g xs h = .ok (xs.map f) h
  | [], _ => rfl
  | x :: xs, q => by
    rw [mf_cons, q x List.mem_cons_self]
    show (mapF g xs h).bind _ = _
    rw [mapF_pure xs fun y hy => q y (List.mem_cons_of_mem _ hy)]
    rfl
end
theorem call_eq {U : Nat → Option Def} {k f : Nat} {args : List Val} {h : Hs} {d : FDef} (hU : U f = some (.fn d)) (hl : args.length = d.ps) : callD U (k + 1) f args h = retOf (evSs (callD U k) d.body (startE d.n args) h) := by
  rw [callD_fn hU]
  exact if_pos hl
theorem start_eq {n : Nat} {args : List Val} : startE n args = args.map (fun v => some (Slot.v v)) ++ List.replicate (n - args.length) none := rfl
end Pyi
set_option Elab.async false
set_option linter.all false
set_option maxRecDepth 100000
set_option maxHeartbeats 1000000
/-! The interpreter run step by step: texts, displays with stars, dicts, instances. -/
namespace Pyi
open PySem SX
/-- the text of these codes *-/
abbrev T (l : List Nat) : Str := ⟨l.toArray⟩
@[simp] theorem esc_lit {cf : Nat → List Val → Hs → Out Val} {env : Env} {h : Hs} {l0 : Lit} {es : List E} : evEs cf (.lit l0 :: es) env h = (evE cf (.lit l0) env h).bind fun x h => (evEs cf es env h).bind fun r h => .ok (x :: r) h := rfl
@[simp] theorem esc_glb {cf : Nat → List Val → Hs → Out Val} {env : Env} {h : Hs} {x0 : Str} {l0 : Lit} {es : List E} : evEs cf (.glb x0 l0 :: es) env h = (evE cf (.glb x0 l0) env h).bind fun x h => (evEs cf es env h).bind fun r h => .ok (x :: r) h := rfl
@[simp] theorem esc_var {cf : Nat → List Val → Hs → Out Val} {env : Env} {h : Hs} {i0 : Nat} {es : List E} : evEs cf (.var i0 :: es) env h = (evE cf (.var i0) env h).bind fun x h => (evEs cf es env h).bind fun r h => .ok (x :: r) h := rfl
@[simp] theorem esc_bin {cf : Nat → List Val → Hs → Out Val} {env : Env} {h : Hs} {o0 : BOp} {a0 b0 : E} {es : List E} : evEs cf (.bin o0 a0 b0 :: es) env h = (evE cf (.bin o0 a0 b0) env h).bind fun x h => (evEs cf es env h).bind fun r h => .ok (x :: r) h := rfl
@[simp] theorem esc_neg {cf : Nat → List Val → Hs → Out Val} {env : Env} {h : Hs} {a0 : E} {es : List E} : evEs cf (.neg a0 :: es) env h = (evE cf (.neg a0) env h).bind fun x h => (evEs cf es env h).bind fun r h => .ok (x :: r) h := rfl
@[simp] theorem esc_not_ {cf : Nat → List Val → Hs → Out Val} {env : Env} {h : Hs} {a0 : E} {es : List E} : evEs cf (.not_ a0 :: es) env h = (evE cf (.not_ a0) env h).bind fun x h => (evEs cf es env h).bind fun r h => .ok (x :: r) h := rfl
@[simp] theorem esc_and_ {cf : Nat → List Val → Hs → Out Val} {env : Env} {h : Hs} {a0 b0 : E} {es : List E} : evEs cf (.and_ a0 b0 :: es) env h = (evE cf (.and_ a0 b0) env h).bind fun x h => (evEs cf es env h).bind fun r h => .ok (x :: r) h := rfl
@[simp] theorem esc_or_ {cf : Nat → List Val → Hs → Out Val} {env : Env} {h : Hs} {a0 b0 : E} {es : List E} : evEs cf (.or_ a0 b0 :: es) env h = (evE cf (.or_ a0 b0) env h).bind fun x h => (evEs cf es env h).bind fun r h => .ok (x :: r) h := rfl
@[simp] theorem esc_ite {cf : Nat → List Val → Hs → Out Val} {env : Env} {h : Hs} {c0 a0 b0 : E} {es : List E} : evEs cf (.ite c0 a0 b0 :: es) env h = (evE cf (.ite c0 a0 b0) env h).bind fun x h => (evEs cf es env h).bind fun r h => .ok (x :: r) h := rfl
@[simp] theorem esc_cmp {cf : Nat → List Val → Hs → Out Val} {env : Env} {h : Hs} {o0 : COp} {a0 b0 : E} {es : List E} : evEs cf (.cmp o0 a0 b0 :: es) env h = (evE cf (.cmp o0 a0 b0) env h).bind fun x h => (evEs cf es env h).bind fun r h => .ok (x :: r) h := rfl
@[simp] theorem esc_chn {cf : Nat → List Val → Hs → Out Val} {env : Env} {h : Hs} {o0 p0 : COp} {a0 b0 c0 : E} {es : List E} : evEs cf (.chn o0 p0 a0 b0 c0 :: es) env h = (evE cf (.chn o0 p0 a0 b0 c0) env h).bind fun x h => (evEs cf es env h).bind fun r h => .ok (x :: r) h := rfl
@[simp] theorem esc_tup {cf : Nat → List Val → Hs → Out Val} {env : Env} {h : Hs} {es0 : List E} {es : List E} : evEs cf (.tup es0 :: es) env h = (evE cf (.tup es0) env h).bind fun x h => (evEs cf es env h).bind fun r h => .ok (x :: r) h := rfl
@[simp] theorem esc_idx {cf : Nat → List Val → Hs → Out Val} {env : Env} {h : Hs} {a0 i0 : E} {es : List E} : evEs cf (.idx a0 i0 :: es) env h = (evE cf (.idx a0 i0) env h).bind fun x h => (evEs cf es env h).bind fun r h => .ok (x :: r) h := rfl
@[simp] theorem esc_slc {cf : Nat → List Val → Hs → Out Val} {env : Env} {h : Hs} {a0 : E} {lo0 hi0 : Option E} {es : List E} : evEs cf (.slc a0 lo0 hi0 :: es) env h = (evE cf (.slc a0 lo0 hi0) env h).bind fun x h => (evEs cf es env h).bind fun r h => .ok (x :: r) h := rfl
@[simp] theorem esc_rev {cf : Nat → List Val → Hs → Out Val} {env : Env} {h : Hs} {a0 : E} {es : List E} : evEs cf (.rev a0 :: es) env h = (evE cf (.rev a0) env h).bind fun x h => (evEs cf es env h).bind fun r h => .ok (x :: r) h := rfl
@[simp] theorem esc_call {cf : Nat → List Val → Hs → Out Val} {env : Env} {h : Hs} {f0 : Nat} {es0 : List E} {ds0 : List Lit} {es : List E} : evEs cf (.call f0 es0 ds0 :: es) env h = (evE cf (.call f0 es0 ds0) env h).bind fun x h => (evEs cf es env h).bind fun r h => .ok (x :: r) h := rfl
@[simp] theorem esc_bi {cf : Nat → List Val → Hs → Out Val} {env : Env} {h : Hs} {b0 : Bi} {es0 : List E} {es : List E} : evEs cf (.bi b0 es0 :: es) env h = (evE cf (.bi b0 es0) env h).bind fun x h => (evEs cf es env h).bind fun r h => .ok (x :: r) h := rfl
@[simp] theorem esc_isi {cf : Nat → List Val → Hs → Out Val} {env : Env} {h : Hs} {a0 : E} {t0 : Ty} {es : List E} : evEs cf (.isi a0 t0 :: es) env h = (evE cf (.isi a0 t0) env h).bind fun x h => (evEs cf es env h).bind fun r h => .ok (x :: r) h := rfl
@[simp] theorem esc_fr {cf : Nat → List Val → Hs → Out Val} {env : Env} {h : Hs} {f0 : FE} {es : List E} : evEs cf (.fr f0 :: es) env h = (evE cf (.fr f0) env h).bind fun x h => (evEs cf es env h).bind fun r h => .ok (x :: r) h := rfl
@[simp] theorem esc_mk {cf : Nat → List Val → Hs → Out Val} {env : Env} {h : Hs} {f0 : FE} {es : List E} : evEs cf (.mk f0 :: es) env h = (evE cf (.mk f0) env h).bind fun x h => (evEs cf es env h).bind fun r h => .ok (x :: r) h := rfl
@[simp] theorem esc_olen {cf : Nat → List Val → Hs → Out Val} {env : Env} {h : Hs} {i0 : Nat} {es : List E} : evEs cf (.olen i0 :: es) env h = (evE cf (.olen i0) env h).bind fun x h => (evEs cf es env h).bind fun r h => .ok (x :: r) h := rfl
@[simp] theorem esc_oidx {cf : Nat → List Val → Hs → Out Val} {env : Env} {h : Hs} {i0 : Nat} {e0 : E} {es : List E} : evEs cf (.oidx i0 e0 :: es) env h = (evE cf (.oidx i0 e0) env h).bind fun x h => (evEs cf es env h).bind fun r h => .ok (x :: r) h := rfl
@[simp] theorem esc_oemp {cf : Nat → List Val → Hs → Out Val} {env : Env} {h : Hs} {i0 : Nat} {pos0 : Bool} {es : List E} : evEs cf (.oemp i0 pos0 :: es) env h = (evE cf (.oemp i0 pos0) env h).bind fun x h => (evEs cf es env h).bind fun r h => .ok (x :: r) h := rfl
@[simp] theorem esc_lenDC {cf : Nat → List Val → Hs → Out Val} {env : Env} {h : Hs} {k0 : E} {tg0 : Tg} {it0 : It} {es : List E} : evEs cf (.lenDC k0 tg0 it0 :: es) env h = (evE cf (.lenDC k0 tg0 it0) env h).bind fun x h => (evEs cf es env h).bind fun r h => .ok (x :: r) h := rfl
@[simp] theorem esc_lenSet {cf : Nat → List Val → Hs → Out Val} {env : Env} {h : Hs} {f0 : FE} {es : List E} : evEs cf (.lenSet f0 :: es) env h = (evE cf (.lenSet f0) env h).bind fun x h => (evEs cf es env h).bind fun r h => .ok (x :: r) h := rfl
@[simp] theorem esc_fld {cf : Nat → List Val → Hs → Out Val} {env : Env} {h : Hs} {a0 : E} {x0 : Str} {es : List E} : evEs cf (.fld a0 x0 :: es) env h = (evE cf (.fld a0 x0) env h).bind fun x h => (evEs cf es env h).bind fun r h => .ok (x :: r) h := rfl
@[simp] theorem esc_prop {cf : Nat → List Val → Hs → Out Val} {env : Env} {h : Hs} {n0 : Nat} {a0 : E} {es : List E} : evEs cf (.prop n0 a0 :: es) env h = (evE cf (.prop n0 a0) env h).bind fun x h => (evEs cf es env h).bind fun r h => .ok (x :: r) h := rfl
@[simp] theorem esc_meth {cf : Nat → List Val → Hs → Out Val} {env : Env} {h : Hs} {n0 : Nat} {a0 : E} {es0 : List E} {ds0 : List Lit} {es : List E} : evEs cf (.meth n0 a0 es0 ds0 :: es) env h = (evE cf (.meth n0 a0 es0 ds0) env h).bind fun x h => (evEs cf es env h).bind fun r h => .ok (x :: r) h := rfl
@[simp] theorem esc_new {cf : Nat → List Val → Hs → Out Val} {env : Env} {h : Hs} {n0 : Nat} {es0 : List E} {ds0 : List Lit} {es : List E} : evEs cf (.new n0 es0 ds0 :: es) env h = (evE cf (.new n0 es0 ds0) env h).bind fun x h => (evEs cf es env h).bind fun r h => .ok (x :: r) h := rfl
@[simp] theorem esc_join {cf : Nat → List Val → Hs → Out Val} {env : Env} {h : Hs} {a0 b0 : E} {es : List E} : evEs cf (.join a0 b0 :: es) env h = (evE cf (.join a0 b0) env h).bind fun x h => (evEs cf es env h).bind fun r h => .ok (x :: r) h := rfl
@[simp] theorem esc_fstr {cf : Nat → List Val → Hs → Out Val} {env : Env} {h : Hs} {es0 : List E} {es : List E} : evEs cf (.fstr es0 :: es) env h = (evE cf (.fstr es0) env h).bind fun x h => (evEs cf es env h).bind fun r h => .ok (x :: r) h := rfl
@[simp] theorem esc_dcomp {cf : Nat → List Val → Hs → Out Val} {env : Env} {h : Hs} {k0 v0 : E} {tg0 : Tg} {it0 : It} {es : List E} : evEs cf (.dcomp k0 v0 tg0 it0 :: es) env h = (evE cf (.dcomp k0 v0 tg0 it0) env h).bind fun x h => (evEs cf es env h).bind fun r h => .ok (x :: r) h := rfl
@[simp] theorem esc_dget {cf : Nat → List Val → Hs → Out Val} {env : Env} {h : Hs} {d0 k0 e0 : E} {es : List E} : evEs cf (.dget d0 k0 e0 :: es) env h = (evE cf (.dget d0 k0 e0) env h).bind fun x h => (evEs cf es env h).bind fun r h => .ok (x :: r) h := rfl
@[simp] theorem esc_eqI {cf : Nat → List Val → Hs → Out Val} {env : Env} {h : Hs} {n0 : Nat} {neg0 : Bool} {a0 b0 : E} {es : List E} : evEs cf (.eqI n0 neg0 a0 b0 :: es) env h = (evE cf (.eqI n0 neg0 a0 b0) env h).bind fun x h => (evEs cf es env h).bind fun r h => .ok (x :: r) h := rfl
@[simp] theorem esc_dsp {cf : Nat → List Val → Hs → Out Val} {env : Env} {h : Hs} {ns : List Str} {a0 : List E} {es : List E} : evEs cf (.dsp ns a0 :: es) env h = (evE cf (.dsp ns a0) env h).bind fun x h => (evEs cf es env h).bind fun r h => .ok (x :: r) h := rfl
@[simp] theorem esc_oget {cf : Nat → List Val → Hs → Out Val} {env : Env} {h : Hs} {i0 : Nat} {k0 e0 : E} {es : List E} : evEs cf (.oget i0 k0 e0 :: es) env h = (evE cf (.oget i0 k0 e0) env h).bind fun x h => (evEs cf es env h).bind fun r h => .ok (x :: r) h := rfl
@[simp] theorem esc_otup {cf : Nat → List Val → Hs → Out Val} {env : Env} {h : Hs} {i0 : Nat} {es : List E} : evEs cf (.otup i0 :: es) env h = (evE cf (.otup i0) env h).bind fun x h => (evEs cf es env h).bind fun r h => .ok (x :: r) h := rfl
@[simp] theorem esc_lenI {cf : Nat → List Val → Hs → Out Val} {env : Env} {h : Hs} {n0 : Nat} {a0 : E} {es : List E} : evEs cf (.lenI n0 a0 :: es) env h = (evE cf (.lenI n0 a0) env h).bind fun x h => (evEs cf es env h).bind fun r h => .ok (x :: r) h := rfl
section
variable {cf : Nat → List Val → Hs → Out Val} {env : Env} {h : Hs}
def turnK (cf : Nat → List Val → Hs → Out Val) (env : Env) (tg : Tg) (k v : E) : Val → Hs → Out (Option Val) := fun x h =>
  (ofOpt (bindT tg x (wipeE env tg.slots)) h).bind fun env' h => (evE cf k env' h).bind fun y h => (evE cf v env' h).bind fun z h => if flatK y then .ok (some (.tup [y, z])) h else .bad
theorem turnK_eq {tg : Tg} {k v : E} {x : Val} : turnK cf env tg k v x h = (ofOpt (bindT tg x (wipeE env tg.slots)) h).bind fun env' h => (evE cf k env' h).bind fun y h => (evE cf v env' h).bind fun z h => if flatK y then .ok (some (.tup [y, z])) h else .bad := rfl
@[simp] theorem e_dsp {ns : List Str} {es : List E} : evE cf (.dsp ns es) env h = (evEs cf es env h).bind fun vs h => .ok (.dct (ns.map .str) vs) h := rfl
@[simp] theorem e_oget {i : Nat} {k e : E} : evE cf (.oget i k e) env h = (ofOpt (ownDL env i) h).bind fun d h => (evE cf k env h).bind fun y h => (evE cf e env h).bind fun z h => if keyT y then .ok ((dget d.1 d.2 y).getD z) h else .bad := rfl
@[simp] theorem e_otup {i : Nat} : evE cf (.otup i) env h = (ofOpt (ownDL env i) h).bind fun d h => if decide (d.1.length ≤ most) then .ok (.tup (zipV d.1 d.2)) h else .bad := rfl
@[simp] theorem f_sset {e : E} : evF cf (.sset e) env h = (evE cf e env h).bind fun x h => ofOpt (setL x) h := rfl
@[simp] theorem s_wthR_ {i d k v : Nat} : evS cf (.wthR i d k v) env h = (ofOpt (varV env d) h).toS fun x h => (ofOpt (varV env v) h).toS fun z h => (ofOpt (varV env k) h).toS fun y h => (ofOpt (withV x y z) h).toS fun w h => if decide (i < env.length) then .ok (.ret w) env h else .bad := rfl
@[simp] theorem e_join {a b : E} : evE cf (.join a b) env h = (evE cf a env h).bind fun x h => (ofOpt (asS x) h).bind fun s h => (evE cf b env h).bind fun y h => ofOpt (joinV s y) h := rfl
@[simp] theorem e_fstr {es : List E} : evE cf (.fstr es) env h = evJ cf es Str.empty env h := rfl
@[simp] theorem e_dcomp {k v : E} {tg : Tg} {it : It} : evE cf (.dcomp k v tg it) env h = (evIt cf it env h).bind fun xs h => if decide (xs.length ≤ most) then (mapF (turnK cf env tg k v) xs h).bind fun ps h => .ok (putAll ps) h else .bad := rfl
@[simp] theorem e_dget {d k e : E} : evE cf (.dget d k e) env h = (evE cf d env h).bind fun x h => (ofOpt (asDc x) h).bind fun x h => (evE cf k env h).bind fun y h => (evE cf e env h).bind fun z h => ofOpt (dgetV x y z) h := rfl
@[simp] theorem e_eqI {n : Nat} {neg : Bool} {a b : E} : evE cf (.eqI n neg a b) env h = (evE cf a env h).bind fun x h => (evE cf b env h).bind fun y h => (ofOpt (sameC x y) h).bind fun _ h => (nx (cf n [x, y] h)).bind fun r h => (ofOpt (asB r) h).bind fun t h => .ok (.bl (t != neg)) h := rfl
@[simp] theorem e_oemp {i : Nat} {pos : Bool} : evE cf (.oemp i pos) env h = (ofOpt (ownL env i) h).bind fun vs h => .ok (.bl (vs.isEmpty == pos)) h := rfl
@[simp] theorem jj_nil {acc : Str} : evJ cf [] acc env h = .ok (.str acc) h := rfl
@[simp] theorem jj_cons {e : E} {es : List E} {acc : Str} : evJ cf (e :: es) acc env h = (evE cf e env h).bind fun x h => (ofOpt (strW x) h).bind fun y h => if acc.length + y.length ≤ most then evJ cf es (acc ++ y) env h else .bad := rfl
@[simp] theorem f_split {a b : E} : evF cf (.split a b) env h = (evE cf a env h).bind fun x h => (ofOpt (asS x) h).bind fun s h => (evE cf b env h).bind fun y h => ofOpt (splitV s y) h := rfl
@[simp] theorem getH_dct {h : Hs} {ks vs : List Val} {k : Val} : getH h (.dct ks vs) k = if flatK k then dget ks vs k else none := rfl
@[simp] theorem f_rep {f : FE} {e : E} : evF cf (.rep f e) env h = (evF cf f env h).bind fun vs h => (evE cf e env h).bind fun y h => (ofOpt (asI y) h).bind fun k h => if decide (0 ≤ k) && (decide (k < 2 ^ 62) && decide (vs.length * k.toNat ≤ most)) then .ok (List.replicate k.toNat vs).flatten h else .bad := rfl
@[simp] theorem f_lstS {es : List E} : evF cf (.lstS es) env h = (evEs cf es env h).bind fun vs h => if decide (vs.length ≤ most) then .ok vs h else .bad := rfl
@[simp] theorem p_v {e : E} : evP cf (.v e) env h = (evE cf e env h).bind fun x h => .ok (.v x) h := rfl
@[simp] theorem p_o {f : FE} : evP cf (.o f) env h = (evF cf f env h).bind fun x h => .ok (.own x) h := rfl
@[simp] theorem ps_nil_ : evPs cf [] env h = .ok [] h := rfl
@[simp] theorem ps_cons_ {p : PItem} {ps : List PItem} : evPs cf (p :: ps) env h = (evP cf p env h).bind fun s h => (evPs cf ps env h).bind fun r h => .ok (s :: r) h := rfl
@[simp] theorem s_parO_ {is : List Nat} {ps : List PItem} : evS cf (.parO is ps) env h = (evPs cf ps env h).toS fun ss h => .ok .nxt (setSl env is ss) h := rfl
@[simp] theorem sl2_nil : setSl env [] [] = env := rfl
@[simp] theorem sl2_cons {i : Nat} {is : List Nat} {s : Slot} {ss : List Slot} : setSl env (i :: is) (s :: ss) = setSl (env.set i (some s)) is ss := rfl
@[simp] theorem s_setD_ {i : Nat} {k v : E} {tg : Tg} {it : It} : evS cf (.setD i k v tg it) env h = (evE cf (.dcomp k v tg it) env h).toS fun x h => .ok .nxt (env.set i (some (.v x))) h := rfl
@[simp] theorem s_ext_ {i : Nat} {f : FE} : evS cf (.ext i f) env h = (ofOpt (ownL env i) h).toS fun vs h => (evF cf f env h).toS fun ws h => if decide (vs.length + ws.length ≤ most) then .ok .nxt (env.set i (some (.own (vs ++ ws)))) h else .bad := rfl
@[simp] theorem s_appPop_ {i j : Nat} {e : E} : evS cf (.appPop i j e) env h = (ofOpt (ownL env i) h).toS fun vs h => (ofOpt (ownL env j) h).toS fun ws h => (evE cf e env h).toS fun x h => (ofOpt (asI x) h).toS fun k h =>
      if decide (0 ≤ k) && (decide (k < 2 ^ 62) && (decide (vs.length ≤ most) && decide (i ≠ j))) then
        (ofOpt ws[k.toNat]? h).toS fun y h => .ok .nxt ((env.set j (some (.own (ws.eraseIdx k.toNat)))).set i (some (.own (vs ++ [y])))) h
      else .bad := rfl
@[simp] theorem s_fset_ {i c : Nat} {x : Str} {e : E} : evS cf (.fset i c x e) env h = (evE cf e env h).toS fun v h => (ofOpt (ownIL env i) h).toS fun t h =>
      if decide (t.1 = c) && (!t.2.1.contains x && decide (t.2.1.length < 900)) then .ok .nxt (env.set i (some (.ownI c (t.2.1 ++ [x]) (t.2.2 ++ [v])))) h else .bad := rfl
@[simp] theorem ownI_0 {c : Nat} {x : List Str} {y : List Val} {r : Env} : ownIL (some (.ownI c x y) :: r) 0 = some (c, x, y) := rfl
@[simp] theorem asS_s {x : Str} : asS (.str x) = some x := rfl
@[simp] theorem asDc_d {ks vs : List Val} : asDc (.dct ks vs) = some (.dct ks vs) := rfl
@[simp] theorem sameC_i {c d : Nat} {n m : List Str} {v w : List Val} : sameC (.inst c n v) (.inst d m w) = if c = d then some () else none := rfl
@[simp] theorem lstOf_l {xs : List Val} : lstOf (.lst xs) = some xs := rfl
@[simp] theorem fldV_i {c : Nat} {ns : List Str} {vs : List Val} {x : Str} : fldV (.inst c ns vs) x = fldL ns vs x := rfl
@[simp] theorem fldL_c {n x : Str} {ns : List Str} {v : Val} {vs : List Val} : fldL (n :: ns) (v :: vs) x = if n = x then some v else fldL ns vs x := rfl
/-! ### texts as lists of codes -/
theorem tl_S (a : List Nat) : (T a).cps.toList = a := rfl
theorem len_S (a : List Nat) : (T a).length = a.length := S_len a
def Ok (a : List Nat) : Prop := ∀ c ∈ a, c < 1114112
theorem sOk_S {a : List Nat} (ha : Ok a) : sOk (T a) = true := by
  unfold sOk
  rw [← Array.all_toList]
  exact List.all_eq_true.mpr fun c hc => decide_eq_true (ha c hc)
theorem plain_S {a : List Nat} (ha : Ok a) : plainV (.str (T a)) = true := by
  unfold plainV
  have e1 : eqOk (.str (T a)) = true := rfl
  have e2 : strsOk (.str (T a)) = sOk (T a) := rfl
  rw [e1, e2, sOk_S ha]
  rfl
theorem veq_S {a b : List Nat} : veq (.str (T a)) (.str (T b)) = decide (a = b) := S_beq_eq
theorem eq_S {a b : List Nat} (ha : Ok a) (hb : Ok b) : cmpop .eq (.str (T a)) (.str (T b)) = some (decide (a = b)) := by
  rw [c_eq (plain_S ha) (plain_S hb), veq_S]
theorem ne_S {a b : List Nat} (ha : Ok a) (hb : Ok b) : cmpop .ne (.str (T a)) (.str (T b)) = some (!decide (a = b)) := by
  rw [c_ne (plain_S ha) (plain_S hb), veq_S]
theorem in_S (c : Nat) (d : List Nat) : cmpop .in_ (.str (T [c])) (.str (T d)) = some (decide (c ∈ d)) := by
  show some (!(Builtin.Str.occurrences (T d) (T [c]) 0 (T d).length 1).isEmpty) = _
  rw [in_one]
theorem getS_S {a : List Nat} {lo hi : Option Int} (hl : a.length ≤ most) : getS (.str (T a)) lo hi = some (.str (T (cut a lo hi))) := by
  show (if (T a).length ≤ most then some (Val.str ⟨(cut (T a).cps.toList lo hi).toArray⟩) else none) = _
  rw [len_S, if_pos hl]
theorem getI_S {a : List Nat} {i : Int} (hl : a.length ≤ most) : getH h (.str (T a)) (.int i) = (atI a i).map fun c => .str (T [c]) := by
  show (if (T a).length ≤ most then (atI (T a).cps.toList i).map fun c => Val.str ⟨#[c]⟩ else none) = _
  rw [len_S, if_pos hl]
theorem signs_S (a : List Nat) : signsOf (T a) = a.map fun c => Val.str (T [c]) := rfl
theorem split_V {a b : List Nat} (hb : b ≠ []) (hk : b.all (· < 256) = true) (hl : a.length ≤ most) : splitV (T a) (.str (T b)) = some ((TL.spl b 0 [] a).map fun x => .str (T x)) := by
  show (if (T b).length ≠ 0 ∧ (T a).length ≤ most then some ((Txt.split (T a) (T b)).map Val.str) else none) = _
  rw [len_S, len_S, if_pos ⟨fun z => hb (List.length_eq_zero_iff.mp z), hl⟩, split_S hb hk, List.map_map]
  rfl
theorem strsL_S : ∀ xs : List (List Nat), strsL (xs.map fun x => .str (T x)) = some (xs.map T)
  | [] => rfl
  | x :: xs => by
    show (strsL (xs.map fun x => .str (T x))).map (T x :: ·) = _
    rw [strsL_S xs]
    rfl
theorem join_V {a : List Nat} {xs : List (List Nat)} (hl : (xs.map (·.length)).sum + xs.length * a.length ≤ most) : joinV (T a) (.lst (xs.map fun x => .str (T x))) = some (.str (T (TL.joinL a xs))) := by
  show (strsL _).bind (joinS (T a)) = _
  rw [strsL_S]
  show joinS (T a) (xs.map T) = _
  unfold joinS
  rw [lens, len_S, List.length_map, if_pos hl, join_S]
theorem add_S {a b : List Nat} (hl : a.length + b.length ≤ most) : binop .add (.str (T a)) (.str (T b)) = some (.str (T (a ++ b))) := by
  show (if (T a).length + (T b).length ≤ most then some (Val.str (T a ++ T b)) else none) = _
  rw [len_S, len_S, if_pos hl, S_cat]
/-- the digits of a whole number -/
abbrev nm (n : Nat) : List Nat := TL.numL n
theorem natAbs_1900 {n : Nat} (hn : n < 2 ^ 1900) : decide (((n : Int)).natAbs < 2 ^ 1900) = true := decide_eq_true (by rw [Int.natAbs_natCast]; exact hn)
theorem str_num {n : Nat} (hn : n < 2 ^ 1900) : strV (.int n) = some (.str (T (nm n))) := by
  show (if decide (((n : Int)).natAbs < 2 ^ 1900) then some (Val.str (toString (n : Int))) else none) = _
  rw [natAbs_1900 hn, if_pos rfl, num_S n]
theorem strW_num {n : Nat} (hn : n < 2 ^ 1900) : strW (.int n) = some (T (nm n)) := by
  show (if decide (((n : Int)).natAbs < 2 ^ 1900) then some ((toString (n : Int) : String) : Str) else none) = _
  rw [natAbs_1900 hn, if_pos rfl, num_S n]
@[simp] theorem strW_s {x : Str} : strW (.str x) = some x := rfl
@[simp] theorem strV_s {x : Str} : strV (.str x) = some (.str x) := rfl
end
end Pyi
set_option Elab.async false
set_option linter.all false
set_option maxRecDepth 100000
set_option maxHeartbeats 0
/-! k04: the law's text beside the interpreter's. Printed by gen.py. -/
namespace LT
open PySem PySem.Spec PyProof.Rows L2 Pyi
def top (i : Nat) : Stmt := PySem.Challenge.pw_sizesreckoned_k04_whole_worths_of_sizes.main.body.getD i (.Pass ⟨0, 0, 0, 0⟩)

def d0 : FDef := ⟨3, 3, [.if_ (.or_ (.not_ (.isi (.var 0) .int)) (.isi (.var 0) .bool)) [.ret (.lit (.bl false))] [], .ret (.and_ (.or_ (.cmp .is_ (.var 1) (.lit .non)) (.cmp .le (.var 1) (.var 0))) (.or_ (.cmp .is_ (.var 2) (.lit .non)) (.cmp .le (.var 0) (.var 2))))]⟩ -- is_integer
def d1 : FDef := ⟨3, 3, [.ret (.and_ (.isi (.var 0) .tuple) (.and_ (.cmp .le (.var 1) (.bi .len [.var 0])) (.or_ (.cmp .is_ (.var 2) (.lit .non)) (.cmp .le (.bi .len [.var 0]) (.var 2)))))]⟩ -- is_tuple
def d42 : FDef := ⟨1, 3, [.set 1 (.ite (.cmp .eq (.slc (.var 0) none (some (.lit (.int 1)))) (.lit (.str "-"))) (.slc (.var 0) (some (.lit (.int 1))) none) (.var 0)), .if_ (.or_ (.cmp .eq (.var 1) (.lit (.str ""))) (.not_ (.bi .all_ [.fr (.comp (.cmp .in_ (.var 2) (.glb "DIGITS" (.str "0123456789"))) (.v 2) (.seq (.var 1)) [])]))) [.ret (.lit .non)] [], .if_ (.and_ (.cmp .eq (.idx (.var 1) (.lit (.int 0))) (.lit (.str "0"))) (.cmp .ne (.var 0) (.lit (.str "0")))) [.ret (.lit .non)] [], .ret (.bi .int_ [.var 0])]⟩ -- integer_in
def d2 : FDef := ⟨2, 2, [.while_ (.cmp .gt (.var 1) (.lit (.int 0))) [.par [0, 1] [.var 1, .bin .mod (.var 0) (.var 1)]], .ret (.var 0)]⟩ -- common
def d4 : FDef := ⟨1, 1, [.if_ (.or_ (.not_ (.call 1 [.var 0, .glb "PAIR" (.int 2), .glb "PAIR" (.int 2)] [])) (.or_ (.not_ (.call 0 [.idx (.var 0) (.lit (.int 0)), .lit (.int 0)] [.non])) (.not_ (.call 0 [.idx (.var 0) (.lit (.int 1)), .lit (.int 1)] [.non])))) [.ret (.lit (.bl false))] [], .ret (.cmp .eq (.call 2 [.idx (.var 0) (.lit (.int 0)), .idx (.var 0) (.lit (.int 1))] []) (.lit (.int 1)))]⟩ -- is_number
def d5 : FDef := ⟨2, 2, [.ret (.and_ (.call 4 [.var 0] []) (.chn .lt .le (.lit (.int 0)) (.idx (.var 0) (.lit (.int 0))) (.bin .mul (.var 1) (.idx (.var 0) (.lit (.int 1))))))]⟩ -- is_size
def d40 : FDef := ⟨3, 5, [.set 3 (.fr (.split (.var 0) (.glb "BLANK" (.str " ")))), .set 4 (.ite (.and_ (.cmp .eq (.bi .len [.var 3]) (.glb "PAIR" (.int 2))) (.cmp .eq (.idx (.var 3) (.lit (.int 0))) (.var 1))) (.call 42 [.idx (.var 3) (.lit (.int 1))] []) (.lit .non)), .ret (.ite (.and_ (.cmp .isnot (.var 4) (.lit .non)) (.chn .le .le (.lit (.int 1)) (.var 4) (.var 2))) (.var 4) (.lit .non))]⟩ -- number_in
def d41 : FDef := ⟨2, 6, [.set 2 (.fr (.split (.var 0) (.glb "BLANK" (.str " ")))), .if_ (.or_ (.cmp .ne (.bi .len [.var 2]) (.glb "TRIPLE" (.int 3))) (.cmp .notin (.idx (.var 2) (.lit (.int 0))) (.tup [.glb "FROM" (.str "from"), .glb "BEYOND" (.str "beyond")]))) [.ret (.lit .non)] [], .par [4, 5] [.call 42 [.idx (.var 2) (.lit (.int 1))] [], .call 42 [.idx (.var 2) (.neg (.lit (.int 1)))] []], .set 3 (.ite (.cmp .eq (.idx (.var 2) (.lit (.int 0))) (.glb "FROM" (.str "from"))) (.lit (.int 1)) (.lit (.int 0))), .if_ (.or_ (.cmp .is_ (.var 4) (.lit .non)) (.or_ (.cmp .is_ (.var 5) (.lit .non)) (.or_ (.not_ (.chn .le .lt (.var 3) (.var 4) (.bin .add (.var 1) (.var 3)))) (.not_ (.chn .le .le (.lit (.int 0)) (.var 5) (.glb "MOST_WORTH" (.int 999999999))))))) [.ret (.lit .non)] [], .ret (.tup [.idx (.var 2) (.lit (.int 0)), .var 4, .var 5])]⟩ -- step_in
def d39 : FDef := ⟨1, 1, [.ret (.bin .add (.bin .mul (.glb "PAIR" (.int 2)) (.idx (.var 0) (.lit (.int 1)))) (.bi .int_ [.cmp .eq (.idx (.var 0) (.lit (.int 0))) (.glb "BEYOND" (.str "beyond"))]))]⟩ -- space_at
def d37 : FDef := ⟨1, 8, [.if_ (.not_ (.isi (.var 0) .str)) [.nev] [], .set 1 (.fr (.split (.var 0) (.glb "FEED" (.str "\n")))), .set 2 (.call 40 [.idx (.var 1) (.lit (.int 0)), .glb "BOX" (.str "box"), .glb "MOST_BOX" (.int 60)] []), .if_ (.cmp .is_ (.var 2) (.lit .non)) [.nev] [], .set 3 (.ite (.cmp .gt (.bi .len [.var 1]) (.lit (.int 1))) (.call 40 [.idx (.var 1) (.lit (.int 1)), .glb "BOUND" (.str "bound"), .glb "MOST_WORTH" (.int 999999999)] []) (.lit .non)), .if_ (.cmp .is_ (.var 3) (.lit .non)) [.nev] [], .own 4 (.lst []), .for_ (.t [.v 5, .v 6]) (.enum (.slc (.var 1) (some (.glb "PAIR" (.int 2))) none)) [.set 7 (.call 41 [.var 6, .var 2] []), .if_ (.or_ (.cmp .is_ (.var 7) (.lit .non)) (.and_ (.oemp 4 false) (.cmp .le (.call 39 [.var 7] []) (.call 39 [.oidx 4 (.neg (.lit (.int 1)))] [])))) [.nev] [], .app 4 (.var 7)], .frz 4, .ret (.tup [.var 2, .var 3, .bi .tuple_ [.var 4]])]⟩ -- parts_of
def d38 : FDef := ⟨2, 6, [.setD 2 (.call 39 [.var 5] []) (.idx (.var 5) (.neg (.lit (.int 1)))) (.v 5) (.seq (.var 1)), .own 3 (.lst [.lit (.int 0)]), .for_ (.v 4) (.rng2 (.lit (.int 1)) (.bin .add (.bin .mul (.glb "PAIR" (.int 2)) (.var 0)) (.lit (.int 1)))) [.app 3 (.dget (.var 2) (.var 4) (.oidx 3 (.neg (.lit (.int 1)))))], .frz 3, .ret (.bi .tuple_ [.var 3])]⟩ -- worths_by
def d48 : FDef := ⟨1, 3, [.tset (.t [.v 1, .v 2]) (.var 0), .ret (.bin .add (.bin .mul (.glb "PAIR" (.int 2)) (.bin .fdiv (.var 1) (.var 2))) (.bi .int_ [.cmp .gt (.bin .mod (.var 1) (.var 2)) (.lit (.int 0))]))]⟩ -- space_of
def d8 : FDef := ⟨2, 2, [.if_ (.or_ (.not_ (.call 1 [.var 0, .glb "PAIR" (.int 2), .glb "PAIR" (.int 2)] [])) (.or_ (.not_ (.call 0 [.idx (.var 0) (.lit (.int 1)), .lit (.int 1)] [.non])) (.not_ (.call 4 [.idx (.var 0) (.lit (.int 0))] [])))) [.ret (.lit (.bl false))] [], .ret (.ite (.cmp .is_ (.var 1) (.lit .non)) (.cmp .gt (.idx (.idx (.var 0) (.lit (.int 0))) (.lit (.int 0))) (.lit (.int 0))) (.call 5 [.idx (.var 0) (.lit (.int 0)), .var 1] []))]⟩ -- is_part
def d9 : FDef := ⟨2, 5, [.if_ (.or_ (.not_ (.call 1 [.var 0, .lit (.int 0)] [.non])) (.not_ (.bi .all_ [.fr (.comp (.call 8 [.var 2, .var 1] []) (.v 2) (.seq (.var 0)) [])]))) [.ret (.lit (.bl false))] [], .ret (.cmp .eq (.lenDC (.var 3) (.t [.v 3, .v 4]) (.seq (.var 0))) (.bi .len [.var 0]))]⟩ -- is_lot
def d10 : FDef := ⟨2, 2, [.if_ (.not_ (.call 9 [.var 0, .var 1] [])) [.nev] []]⟩ -- check_lot
def d51 : FDef := ⟨2, 5, [.tset (.t [.v 2, .v 3, .v 4]) (.call 37 [.var 1] []), .fset 0 0 "own_text" (.var 1), .fset 0 0 "own_box" (.var 2), .fset 0 0 "own_bound" (.var 3), .fset 0 0 "own_steps" (.var 4), .fset 0 0 "own_worths" (.call 38 [.var 2, .var 4] [])]⟩ -- Rule.__init__
def d57 : FDef := ⟨2, 2, [.if_ (.not_ (.call 5 [.var 1, .fld (.var 0) "own_box"] [])) [.nev] [], .ret (.idx (.fld (.var 0) "own_worths") (.call 48 [.var 1] []))]⟩ -- Rule.worth
def d58 : FDef := ⟨2, 4, [.ex (.call 10 [.var 1, .fld (.var 0) "own_box"] []), .ret (.bi .sum [.fr (.comp (.bin .mul (.var 3) (.idx (.fld (.var 0) "own_worths") (.call 48 [.var 2] []))) (.t [.v 2, .v 3]) (.seq (.var 1)) [])])]⟩ -- Rule.reckoned
def d59 : FDef := ⟨2, 2, [.ret (.neg (.bin .fdiv (.neg (.meth 49 (.var 0) [.var 1] [])) (.fld (.var 0) "own_bound")))]⟩ -- Rule.boxes
def d12 : FDef := ⟨2, 5, [.set 2 (.ite (.cmp .lt (.var 1) (.bi .len [.var 0])) (.idx (.var 0) (.var 1)) (.bin .add (.bin .mul (.lit (.int 293)) (.var 1)) (.lit (.int 139)))), .set 3 (.bin .mul (.bin .mod (.bi .int_ [.bi .abs [.var 2]]) (.bin .pow (.bin .pow (.lit (.int 10)) (.lit (.int 60))) (.lit (.int 5)))) (.bi .int_ [.cmp .ge (.bi .abs [.var 2]) (.bin .pow (.lit (.int 10)) (.lit (.int 18)))])), .set 4 (.bin .mod (.bi .int_ [.var 2]) (.lit (.int 2305843009213693951))), .ret (.mk (.lst [.var 3, .bin .mod (.bi .int_ [.bin .add (.bin .add (.bin .mul (.var 4) (.lit (.int 74561))) (.bin .mul (.bin .mul (.lit (.int 7841)) (.var 1)) (.var 1))) (.lit (.int 211))]) (.lit (.int 2305843009213693921)), .lit (.int 0)]))]⟩ -- _law_pot
def d13 : FDef := ⟨2, 5, [.if_ (.cmp .gt (.idx (.var 0) (.lit (.int 0))) (.lit (.int 0))) [.set 4 (.bin .mod (.bi .int_ [.idx (.var 0) (.lit (.int 0))]) (.var 1)), .setI (.var 0) (.lit (.int 0)) (.bin .fdiv (.idx (.var 0) (.lit (.int 0))) (.var 1)), .ret (.var 4)] [], .setI (.var 0) (.lit (.int 2)) (.bin .add (.idx (.var 0) (.lit (.int 2))) (.lit (.int 1))), .set 2 (.idx (.fr (.lst [.lit (.int 2147483647), .lit (.int 2147483629), .lit (.int 2147483587), .lit (.int 2147483579), .lit (.int 2147483563)])) (.bin .mod (.bi .int_ [.idx (.var 0) (.lit (.int 2))]) (.lit (.int 5)))), .set 3 (.bin .mod (.bi .int_ [.bin .pow (.bi .int_ [.bin .add (.bin .add (.idx (.var 0) (.lit (.int 1))) (.bin .mul (.bin .mul (.lit (.int 98897)) (.idx (.var 0) (.lit (.int 2)))) (.idx (.var 0) (.lit (.int 2))))) (.lit (.int 101))]) (.lit (.int 3))]) (.var 2)), .set 3 (.bin .mod (.bi .int_ [.bin .mul (.var 3) (.bin .add (.bin .mod (.bi .int_ [.var 3]) (.lit (.int 10531))) (.bin .mul (.lit (.int 197)) (.idx (.var 0) (.lit (.int 2)))))]) (.lit (.int 2305843009213693907))), .ret (.bin .mod (.bi .int_ [.bin .fdiv (.var 3) (.lit (.int 179))]) (.var 1))]⟩ -- _law_take
def d14 : FDef := ⟨2, 2, [.ret (.idx (.var 1) (.call 13 [.var 0, .bi .len [.var 1]] []))]⟩ -- _law_of
def d82 : FDef := ⟨3, 6, [.parO [4, 5] [.o (.of (.var 1)), .o (.lst [])], .for_ (.v 3) (.rng1 (.var 2)) [.appPop 5 4 (.call 13 [.var 0, .olen 4] [])], .frz 5, .ret (.var 5)]⟩ -- _law_some
def d15 : FDef := ⟨2, 2, [.ret (.fr (.ofIt (.rng1 (.bi .max_ [.lit (.int 1), .bi .min_ [.var 1, .bi .len [.var 0]]]))))]⟩ -- _law_cells
def d16 : FDef := ⟨2, 4, [.par [2, 3] [.bi .int_ [.var 0], .bi .int_ [.var 1]], .while_ (.cmp .gt (.var 3) (.lit (.int 0))) [.par [2, 3] [.var 3, .bin .mod (.var 2) (.var 3)]], .ret (.tup [.bin .fdiv (.bi .int_ [.var 0]) (.var 2), .bin .fdiv (.bi .int_ [.var 1]) (.var 2)])]⟩ -- _law_number
def d81 : FDef := ⟨2, 2, [.ret (.bin .fdiv (.bin .sub (.bin .add (.bi .int_ [.var 0]) (.bi .int_ [.var 1])) (.lit (.int 1))) (.bi .int_ [.var 1]))]⟩ -- _law_up
def d76 : FDef := ⟨1, 5, [.set 1 (.fr (.lst [.bin .add (.lit (.str "box ")) (.bi .str_ [.idx (.var 0) (.lit (.str "box"))]), .bin .add (.lit (.str "bound ")) (.bi .str_ [.idx (.var 0) (.lit (.str "bound"))])])), .ret (.join (.lit (.str "\n")) (.fr (.cat (.var 1) (.fr (.comp (.bin .add (.bin .add (.bin .add (.bin .add (.var 2) (.lit (.str " "))) (.bi .str_ [.var 3])) (.lit (.str " "))) (.bi .str_ [.var 4])) (.t [.v 2, .v 3, .v 4]) (.seq (.idx (.var 0) (.lit (.str "steps")))) [])))))]⟩ -- _law_text
def d66 : FDef := ⟨1, 1, [.ret (.new 28 [.call 76 [.var 0] []] [])]⟩ -- _law_rule
def d79 : FDef := ⟨3, 10, [.par [5, 6] [.bin .add (.lit (.int 1)) (.call 13 [.var 0, .var 1] []), .call 13 [.var 0, .lit (.int 4)] []], .set 3 (.fr (.ofIt (.rng2 (.bin .sub (.lit (.int 2)) (.bi .int_ [.cmp .eq (.call 13 [.var 0, .lit (.int 9)] []) (.lit (.int 0))])) (.bin .add (.bin .mul (.lit (.int 2)) (.var 5)) (.lit (.int 1)))))), .set 3 (.fr (.sset (.call 82 [.var 0, .var 3, .bi .min_ [.bi .len [.var 3], .call 13 [.var 0, .bin .add (.var 2) (.lit (.int 1))] []]] []))), .parO [7, 8, 9] [.v (.lit (.int 0)), .o (.lst []), .v (.call 14 [.var 0, .fr (.lst [.lit (.int 1), .lit (.int 2), .lit (.int 3), .lit (.int 9), .lit (.int 60)])] [])], .for_ (.v 4) (.seq (.var 3)) [.set 7 (.ite (.cmp .lt (.var 6) (.lit (.int 3))) (.bin .add (.var 7) (.call 13 [.var 0, .bin .add (.var 9) (.lit (.int 1))] [])) (.call 13 [.var 0, .bin .add (.bin .mul (.lit (.int 2)) (.var 9)) (.lit (.int 1))] [])), .app 8 (.tup [.idx (.fr (.lst [.lit (.str "from"), .lit (.str "beyond")])) (.bin .mod (.var 4) (.lit (.int 2))), .bin .fdiv (.var 4) (.lit (.int 2)), .var 7])], .frz 8, .ret (.dsp [("box" : Str), ("bound" : Str), ("steps" : Str)] [.var 5, .bin .add (.lit (.int 1)) (.call 13 [.var 0, .bi .max_ [.lit (.int 1), .bin .mul (.lit (.int 2)) (.var 7)]] []), .var 8])]⟩ -- _law_lore
def d19 : FDef := ⟨2, 5, [.par [2, 3, 4] [.call 13 [.var 0, .lit (.int 5)] [], .call 13 [.var 0, .var 1] [], .bin .add (.lit (.int 2)) (.call 13 [.var 0, .call 14 [.var 0, .fr (.lst [.lit (.int 3), .lit (.int 9), .bin .pow (.lit (.int 10)) (.lit (.int 6))])] []] [])], .if_ (.cmp .lt (.var 2) (.lit (.int 2))) [.ret (.tup [.bin .add (.var 3) (.lit (.int 1)), .lit (.int 1)])] [], .if_ (.cmp .eq (.var 2) (.lit (.int 4))) [.ret (.call 16 [.bin .add (.bin .add (.bin .mul (.var 3) (.var 4)) (.lit (.int 1))) (.call 13 [.var 0, .var 4] []), .var 4] [])] [], .ret (.call 16 [.bin .add (.bin .mul (.var 3) (.var 4)) (.idx (.fr (.lst [.lit (.int 1), .bin .sub (.var 4) (.lit (.int 1))])) (.bin .sub (.var 2) (.lit (.int 2)))), .var 4] [])]⟩ -- _law_size
def d20 : FDef := ⟨3, 5, [.ownD 3, .for_ (.v 4) (.rng1 (.call 13 [.var 0, .bin .add (.var 2) (.lit (.int 1))] [])) [.dset 3 (.call 19 [.var 0, .var 1] []) (.bin .add (.lit (.int 1)) (.call 13 [.var 0, .call 14 [.var 0, .fr (.lst [.lit (.int 1), .lit (.int 3), .lit (.int 9), .lit (.int 1000)])] []] []))], .ret (.bi .tuple_ [.fr (.items 3)])]⟩ -- _law_lot
def d80 : FDef := ⟨2, 8, [.tset (.t [.v 2, .t [.v 6, .v 7]]) (.tup [.lit (.int 0), .var 1]), .for_ (.t [.v 3, .v 4, .v 5]) (.seq (.idx (.var 0) (.lit (.str "steps")))) [.if_ (.or_ (.cmp .gt (.var 6) (.bin .mul (.var 4) (.var 7))) (.and_ (.cmp .eq (.var 3) (.lit (.str "from"))) (.cmp .eq (.var 6) (.bin .mul (.var 4) (.var 7))))) [.set 2 (.var 5)] []], .ret (.var 2)]⟩ -- _law_reached
def d78 : FDef := ⟨1, 12, [.for_ (.v 1) (.rng1 (.lit (.int 3))) [.set 2 (.call 79 [.var 0, .call 14 [.var 0, .fr (.lst [.lit (.int 3), .lit (.int 12), .lit (.int 60)])] [], .call 14 [.var 0, .fr (.lst [.lit (.int 3), .lit (.int 8), .lit (.int 20)])] []] []), .set 3 (.call 66 [.var 2] []), .for_ (.v 4) (.rng1 (.lit (.int 16))) [.set 7 (.call 19 [.var 0, .idx (.var 2) (.lit (.str "box"))] []), .if_ (.cmp .ne (.bi .repr [.meth 47 (.var 3) [.var 7] []]) (.bi .repr [.call 80 [.var 2, .var 7] []])) [.ret (.lit (.bl false))] []], .set 5 (.fr (.cat (.fr (.comp (.call 20 [.var 0, .idx (.var 2) (.lit (.str "box")), .lit (.int 8)] []) (.v 4) (.rng1 (.lit (.int 4))) [])) (.fr (.lst [.tup [], .tup [.tup [.tup [.idx (.var 2) (.lit (.str "box")), .lit (.int 1)], .lit (.int 3)]]])))), .for_ (.v 6) (.seq (.var 5)) [.set 8 (.bi .sum [.fr (.comp (.bin .mul (.call 80 [.var 2, .var 7] []) (.var 11)) (.t [.v 7, .v 11]) (.seq (.var 6)) [])]), .if_ (.or_ (.cmp .ne (.bi .repr [.meth 49 (.var 3) [.var 6] []]) (.bi .repr [.var 8])) (.cmp .ne (.bi .repr [.meth 50 (.var 3) [.var 6] []]) (.bi .repr [.call 81 [.var 8, .idx (.var 2) (.lit (.str "bound"))] []]))) [.ret (.lit (.bl false))] [], .set 9 (.call 13 [.var 0, .bin .add (.bi .len [.var 6]) (.lit (.int 1))] []), .set 10 (.meth 49 (.var 3) [.slc (.var 6) none (some (.var 9))] []), .if_ (.or_ (.cmp .ne (.meth 49 (.var 3) [.rev (.var 6)] []) (.var 8)) (.cmp .ne (.bin .add (.var 10) (.meth 49 (.var 3) [.slc (.var 6) (some (.var 9)) none] [])) (.var 8))) [.ret (.lit (.bl false))] []]], .ret (.lit (.bl true))]⟩ -- _law_right
def d83 : FDef := ⟨1, 2, [.ret (.bi .all_ [.fr (.comp (.call 78 [.call 12 [.var 0, .var 1] []] []) (.v 1) (.seq (.call 15 [.var 0, .lit (.int 6)] [])) [])])]⟩ -- law
def tab : List (Nat × Def) := [(0, .fn d0), (1, .fn d1), (42, .fn d42), (2, .fn d2), (4, .fn d4), (5, .fn d5), (40, .fn d40), (41, .fn d41), (39, .fn d39), (37, .fn d37), (38, .fn d38), (48, .fn d48), (8, .fn d8), (9, .fn d9), (10, .fn d10), (57, .fn d57), (58, .fn d58), (59, .fn d59), (12, .fn d12), (13, .fn d13), (14, .fn d14), (82, .fn d82), (15, .fn d15), (16, .fn d16), (81, .fn d81), (76, .fn d76), (66, .fn d66), (79, .fn d79), (19, .fn d19), (20, .fn d20), (80, .fn d80), (78, .fn d78), (83, .fn d83), (50, .disp [(0, 59)]), (49, .disp [(0, 58)]), (47, .disp [(0, 57)]), (28, .mk 0 d51)]
def U (n : Nat) : Option Def := (tab.find? fun p => p.1 == n).map (·.2)
def lfn : List (Nat × Str) := [(0, ("is_integer" : Str)), (1, ("is_tuple" : Str)), (42, ("integer_in" : Str)), (2, ("common" : Str)), (4, ("is_number" : Str)), (5, ("is_size" : Str)), (40, ("number_in" : Str)), (41, ("step_in" : Str)), (39, ("space_at" : Str)), (37, ("parts_of" : Str)), (38, ("worths_by" : Str)), (48, ("space_of" : Str)), (8, ("is_part" : Str)), (9, ("is_lot" : Str)), (10, ("check_lot" : Str)), (12, ("_law_pot" : Str)), (13, ("_law_take" : Str)), (14, ("_law_of" : Str)), (82, ("_law_some" : Str)), (15, ("_law_cells" : Str)), (16, ("_law_number" : Str)), (81, ("_law_up" : Str)), (76, ("_law_text" : Str)), (66, ("_law_rule" : Str)), (79, ("_law_lore" : Str)), (19, ("_law_size" : Str)), (20, ("_law_lot" : Str)), (80, ("_law_reached" : Str)), (78, ("_law_right" : Str)), (83, ("law" : Str))]
def ldf : List (Nat × List (List Lit)) := [(0, [[.non]]), (1, [[], [.non]]), (42, [[]]), (2, [[]]), (4, [[]]), (5, [[]]), (40, [[]]), (41, [[]]), (39, [[]]), (37, [[]]), (38, [[]]), (48, [[]]), (8, [[]]), (9, [[]]), (10, [[]]), (12, [[]]), (13, [[]]), (14, [[]]), (82, [[]]), (15, [[]]), (16, [[]]), (81, [[]]), (76, [[]]), (66, [[]]), (79, [[]]), (19, [[]]), (20, [[]]), (80, [[]]), (78, [[]]), (83, [[]]), (50, [[]]), (49, [[]]), (47, [[]])]
def lgl : List (Str × Lit) := [(("DIGITS" : Str), (.str "0123456789")), (("PAIR" : Str), (.int 2)), (("BLANK" : Str), (.str " ")), (("TRIPLE" : Str), (.int 3)), (("FROM" : Str), (.str "from")), (("BEYOND" : Str), (.str "beyond")), (("MOST_WORTH" : Str), (.int 999999999)), (("FEED" : Str), (.str "\n")), (("BOX" : Str), (.str "box")), (("MOST_BOX" : Str), (.int 60)), (("BOUND" : Str), (.str "bound"))]
def lgt : List (Str × List Int) := []
def lpn : List (Nat × Str) := []
def lmn : List (Nat × Str) := [(50, ("boxes" : Str)), (49, ("reckoned" : Str)), (47, ("worth" : Str))]
def lcn : List (Nat × Str) := [(28, ("Rule" : Str))]
def lna : List (Nat × Str) := [(0, ("own_bound" : Str)), (0, ("own_box" : Str)), (0, ("own_steps" : Str)), (0, ("own_text" : Str)), (0, ("own_worths" : Str))]
def lcl : List (Nat × Str) := [(0, ("Rule" : Str))]
def leq (n : Nat) : Bool := false
def lk : Lk := ⟨fun n => lfn.lookup n, fun n => (ldf.lookup n).getD [[]], fun x => lgl.lookup x, fun x => lgt.lookup x, fun n => lpn.lookup n, fun n => lmn.lookup n, fun n => lcn.lookup n, fun c x => decide ((c, x) ∈ lna), fun n => lcl.lookup n, leq⟩
theorem c0 : chkSs lk [("value" : Str), ("low" : Str), ("high" : Str)] d0.body (defScope (top 12)) (defBody (top 12)) = true := by decide +kernel -- is_integer
theorem c1 : chkSs lk [("value" : Str), ("few" : Str), ("most" : Str)] d1.body (defScope (top 13)) (defBody (top 13)) = true := by decide +kernel -- is_tuple
theorem c42 : chkSs lk [("word" : Str), ("size" : Str), ("sign" : Str)] d42.body (defScope (top 15)) (defBody (top 15)) = true := by decide +kernel -- integer_in
theorem c2 : chkSs lk [("one" : Str), ("other" : Str)] d2.body (defScope (top 16)) (defBody (top 16)) = true := by decide +kernel -- common
theorem c4 : chkSs lk [("value" : Str)] d4.body (defScope (top 17)) (defBody (top 17)) = true := by decide +kernel -- is_number
theorem c5 : chkSs lk [("value" : Str), ("box" : Str)] d5.body (defScope (top 18)) (defBody (top 18)) = true := by decide +kernel -- is_size
theorem c40 : chkSs lk [("line" : Str), ("word" : Str), ("high" : Str), ("words" : Str), ("found" : Str)] d40.body (defScope (top 26)) (defBody (top 26)) = true := by decide +kernel -- number_in
theorem c41 : chkSs lk [("line" : Str), ("box" : Str), ("words" : Str), ("low" : Str), ("place" : Str), ("worth" : Str)] d41.body (defScope (top 27)) (defBody (top 27)) = true := by decide +kernel -- step_in
theorem c39 : chkSs lk [("step" : Str)] d39.body (defScope (top 28)) (defBody (top 28)) = true := by decide +kernel -- space_at
theorem c37 : chkSs lk [("text" : Str), ("lines" : Str), ("box" : Str), ("bound" : Str), ("steps" : Str), ("at" : Str), ("line" : Str), ("step" : Str)] d37.body (defScope (top 29)) (defBody (top 29)) = true := by decide +kernel -- parts_of
theorem c38 : chkSs lk [("box" : Str), ("steps" : Str), ("table" : Str), ("found" : Str), ("space" : Str), ("step" : Str)] d38.body (defScope (top 30)) (defBody (top 30)) = true := by decide +kernel -- worths_by
theorem c48 : chkSs lk [("size" : Str), ("over" : Str), ("under" : Str)] d48.body (defScope (top 31)) (defBody (top 31)) = true := by decide +kernel -- space_of
theorem c8 : chkSs lk [("value" : Str), ("box" : Str)] d8.body (defScope (top 32)) (defBody (top 32)) = true := by decide +kernel -- is_part
theorem c9 : chkSs lk [("value" : Str), ("box" : Str), ("one" : Str), ("size" : Str), ("many" : Str)] d9.body (defScope (top 33)) (defBody (top 33)) = true := by decide +kernel -- is_lot
theorem c10 : chkSs lk [("value" : Str), ("box" : Str)] d10.body (defScope (top 34)) (defBody (top 34)) = true := by decide +kernel -- check_lot
theorem c51 : chkSs lk [("self" : Str), ("text" : Str), ("box" : Str), ("bound" : Str), ("steps" : Str)] d51.body (defScope (inClass (top 35) 0)) (defBody (inClass (top 35) 0)) = true := by decide +kernel -- Rule.__init__
theorem c57 : chkSs lk [("self" : Str), ("size" : Str)] d57.body (defScope (inClass (top 35) 8)) (defBody (inClass (top 35) 8)) = true := by decide +kernel -- Rule.worth
theorem c58 : chkSs lk [("self" : Str), ("lot" : Str), ("size" : Str), ("many" : Str)] d58.body (defScope (inClass (top 35) 9)) (defBody (inClass (top 35) 9)) = true := by decide +kernel -- Rule.reckoned
theorem c59 : chkSs lk [("self" : Str), ("lot" : Str)] d59.body (defScope (inClass (top 35) 10)) (defBody (inClass (top 35) 10)) = true := by decide +kernel -- Rule.boxes
theorem c12 : chkSs lk [("script" : Str), ("place" : Str), ("cell" : Str), ("own" : Str), ("small" : Str)] d12.body (defScope (top 37)) (defBody (top 37)) = true := by decide +kernel -- _law_pot
theorem c13 : chkSs lk [("pot" : Str), ("upto" : Str), ("prime" : Str), ("mixed" : Str), ("digit" : Str)] d13.body (defScope (top 38)) (defBody (top 38)) = true := by decide +kernel -- _law_take
theorem c14 : chkSs lk [("pot" : Str), ("some" : Str)] d14.body (defScope (top 39)) (defBody (top 39)) = true := by decide +kernel -- _law_of
theorem c82 : chkSs lk [("pot" : Str), ("pool" : Str), ("amount" : Str), ("turn" : Str), ("left" : Str), ("found" : Str)] d82.body (defScope (top 40)) (defBody (top 40)) = true := by decide +kernel -- _law_some
theorem c15 : chkSs lk [("script" : Str), ("limit" : Str)] d15.body (defScope (top 41)) (defBody (top 41)) = true := by decide +kernel -- _law_cells
theorem c16 : chkSs lk [("over" : Str), ("under" : Str), ("one" : Str), ("other" : Str)] d16.body (defScope (top 42)) (defBody (top 42)) = true := by decide +kernel -- _law_number
theorem c81 : chkSs lk [("over" : Str), ("under" : Str)] d81.body (defScope (top 43)) (defBody (top 43)) = true := by decide +kernel -- _law_up
theorem c76 : chkSs lk [("lore" : Str), ("rows" : Str), ("word" : Str), ("at" : Str), ("worth" : Str)] d76.body (defScope (top 44)) (defBody (top 44)) = true := by decide +kernel -- _law_text
theorem c66 : chkSs lk [("lore" : Str)] d66.body (defScope (top 45)) (defBody (top 45)) = true := by decide +kernel -- _law_rule
theorem c79 : chkSs lk [("pot" : Str), ("most_box" : Str), ("most_steps" : Str), ("spots" : Str), ("spot" : Str), ("box" : Str), ("way" : Str), ("worth" : Str), ("steps" : Str), ("high" : Str)] d79.body (defScope (top 46)) (defBody (top 46)) = true := by decide +kernel -- _law_lore
theorem c19 : chkSs lk [("pot" : Str), ("box" : Str), ("way" : Str), ("at" : Str), ("under" : Str)] d19.body (defScope (top 47)) (defBody (top 47)) = true := by decide +kernel -- _law_size
theorem c20 : chkSs lk [("pot" : Str), ("box" : Str), ("limit" : Str), ("found" : Str), ("lap" : Str)] d20.body (defScope (top 48)) (defBody (top 48)) = true := by decide +kernel -- _law_lot
theorem c80 : chkSs lk [("lore" : Str), ("size" : Str), ("found" : Str), ("word" : Str), ("place" : Str), ("worth" : Str), ("over" : Str), ("under" : Str)] d80.body (defScope (top 49)) (defBody (top 49)) = true := by decide +kernel -- _law_reached
theorem c78 : chkSs lk [("pot" : Str), ("lap" : Str), ("lore" : Str), ("rule" : Str), ("turn" : Str), ("lots" : Str), ("lot" : Str), ("size" : Str), ("due" : Str), ("at" : Str), ("ahead" : Str), ("many" : Str)] d78.body (defScope (top 50)) (defBody (top 50)) = true := by decide +kernel -- _law_right
theorem c83 : chkSs lk [("script" : Str), ("place" : Str)] d83.body (defScope (top 51)) (defBody (top 51)) = true := by decide +kernel -- law
def N0 : List Str := [("value" : Str), ("low" : Str), ("high" : Str)]
def P0 : List Str := [("value" : Str), ("low" : Str), ("high" : Str)]
def N1 : List Str := [("value" : Str), ("few" : Str), ("most" : Str)]
def P1 : List Str := [("value" : Str), ("few" : Str), ("most" : Str)]
def N42 : List Str := [("word" : Str), ("size" : Str), ("sign" : Str)]
def P42 : List Str := [("word" : Str)]
def N2 : List Str := [("one" : Str), ("other" : Str)]
def P2 : List Str := [("one" : Str), ("other" : Str)]
def N4 : List Str := [("value" : Str)]
def P4 : List Str := [("value" : Str)]
def N5 : List Str := [("value" : Str), ("box" : Str)]
def P5 : List Str := [("value" : Str), ("box" : Str)]
def N40 : List Str := [("line" : Str), ("word" : Str), ("high" : Str), ("words" : Str), ("found" : Str)]
def P40 : List Str := [("line" : Str), ("word" : Str), ("high" : Str)]
def N41 : List Str := [("line" : Str), ("box" : Str), ("words" : Str), ("low" : Str), ("place" : Str), ("worth" : Str)]
def P41 : List Str := [("line" : Str), ("box" : Str)]
def N39 : List Str := [("step" : Str)]
def P39 : List Str := [("step" : Str)]
def N37 : List Str := [("text" : Str), ("lines" : Str), ("box" : Str), ("bound" : Str), ("steps" : Str), ("at" : Str), ("line" : Str), ("step" : Str)]
def P37 : List Str := [("text" : Str)]
def N38 : List Str := [("box" : Str), ("steps" : Str), ("table" : Str), ("found" : Str), ("space" : Str), ("step" : Str)]
def P38 : List Str := [("box" : Str), ("steps" : Str)]
def N48 : List Str := [("size" : Str), ("over" : Str), ("under" : Str)]
def P48 : List Str := [("size" : Str)]
def N8 : List Str := [("value" : Str), ("box" : Str)]
def P8 : List Str := [("value" : Str), ("box" : Str)]
def N9 : List Str := [("value" : Str), ("box" : Str), ("one" : Str), ("size" : Str), ("many" : Str)]
def P9 : List Str := [("value" : Str), ("box" : Str)]
def N10 : List Str := [("value" : Str), ("box" : Str)]
def P10 : List Str := [("value" : Str), ("box" : Str)]
def N51 : List Str := [("self" : Str), ("text" : Str), ("box" : Str), ("bound" : Str), ("steps" : Str)]
def P51 : List Str := [("self" : Str), ("text" : Str)]
def N57 : List Str := [("self" : Str), ("size" : Str)]
def P57 : List Str := [("self" : Str), ("size" : Str)]
def N58 : List Str := [("self" : Str), ("lot" : Str), ("size" : Str), ("many" : Str)]
def P58 : List Str := [("self" : Str), ("lot" : Str)]
def N59 : List Str := [("self" : Str), ("lot" : Str)]
def P59 : List Str := [("self" : Str), ("lot" : Str)]
def N12 : List Str := [("script" : Str), ("place" : Str), ("cell" : Str), ("own" : Str), ("small" : Str)]
def P12 : List Str := [("script" : Str), ("place" : Str)]
def N13 : List Str := [("pot" : Str), ("upto" : Str), ("prime" : Str), ("mixed" : Str), ("digit" : Str)]
def P13 : List Str := [("pot" : Str), ("upto" : Str)]
def N14 : List Str := [("pot" : Str), ("some" : Str)]
def P14 : List Str := [("pot" : Str), ("some" : Str)]
def N82 : List Str := [("pot" : Str), ("pool" : Str), ("amount" : Str), ("turn" : Str), ("left" : Str), ("found" : Str)]
def P82 : List Str := [("pot" : Str), ("pool" : Str), ("amount" : Str)]
def N15 : List Str := [("script" : Str), ("limit" : Str)]
def P15 : List Str := [("script" : Str), ("limit" : Str)]
def N16 : List Str := [("over" : Str), ("under" : Str), ("one" : Str), ("other" : Str)]
def P16 : List Str := [("over" : Str), ("under" : Str)]
def N81 : List Str := [("over" : Str), ("under" : Str)]
def P81 : List Str := [("over" : Str), ("under" : Str)]
def N76 : List Str := [("lore" : Str), ("rows" : Str), ("word" : Str), ("at" : Str), ("worth" : Str)]
def P76 : List Str := [("lore" : Str)]
def N66 : List Str := [("lore" : Str)]
def P66 : List Str := [("lore" : Str)]
def N79 : List Str := [("pot" : Str), ("most_box" : Str), ("most_steps" : Str), ("spots" : Str), ("spot" : Str), ("box" : Str), ("way" : Str), ("worth" : Str), ("steps" : Str), ("high" : Str)]
def P79 : List Str := [("pot" : Str), ("most_box" : Str), ("most_steps" : Str)]
def N19 : List Str := [("pot" : Str), ("box" : Str), ("way" : Str), ("at" : Str), ("under" : Str)]
def P19 : List Str := [("pot" : Str), ("box" : Str)]
def N20 : List Str := [("pot" : Str), ("box" : Str), ("limit" : Str), ("found" : Str), ("lap" : Str)]
def P20 : List Str := [("pot" : Str), ("box" : Str), ("limit" : Str)]
def N80 : List Str := [("lore" : Str), ("size" : Str), ("found" : Str), ("word" : Str), ("place" : Str), ("worth" : Str), ("over" : Str), ("under" : Str)]
def P80 : List Str := [("lore" : Str), ("size" : Str)]
def N78 : List Str := [("pot" : Str), ("lap" : Str), ("lore" : Str), ("rule" : Str), ("turn" : Str), ("lots" : Str), ("lot" : Str), ("size" : Str), ("due" : Str), ("at" : Str), ("ahead" : Str), ("many" : Str)]
def P78 : List Str := [("pot" : Str)]
def N83 : List Str := [("script" : Str), ("place" : Str)]
def P83 : List Str := [("script" : Str)]
def e0 : He.DefD := ⟨("is_integer", none), "is_integer", "is_integer", defArgs (top 12), defBody (top 12), defScope (top 12), [.non, .non], []⟩
def e1 : He.DefD := ⟨("is_tuple", none), "is_tuple", "is_tuple", defArgs (top 13), defBody (top 13), defScope (top 13), [.non], []⟩
def e42 : He.DefD := ⟨("integer_in", none), "integer_in", "integer_in", defArgs (top 15), defBody (top 15), defScope (top 15), [], []⟩
def e2 : He.DefD := ⟨("common", none), "common", "common", defArgs (top 16), defBody (top 16), defScope (top 16), [], []⟩
def e4 : He.DefD := ⟨("is_number", none), "is_number", "is_number", defArgs (top 17), defBody (top 17), defScope (top 17), [], []⟩
def e5 : He.DefD := ⟨("is_size", none), "is_size", "is_size", defArgs (top 18), defBody (top 18), defScope (top 18), [], []⟩
def e40 : He.DefD := ⟨("number_in", none), "number_in", "number_in", defArgs (top 26), defBody (top 26), defScope (top 26), [], []⟩
def e41 : He.DefD := ⟨("step_in", none), "step_in", "step_in", defArgs (top 27), defBody (top 27), defScope (top 27), [], []⟩
def e39 : He.DefD := ⟨("space_at", none), "space_at", "space_at", defArgs (top 28), defBody (top 28), defScope (top 28), [], []⟩
def e37 : He.DefD := ⟨("parts_of", none), "parts_of", "parts_of", defArgs (top 29), defBody (top 29), defScope (top 29), [], []⟩
def e38 : He.DefD := ⟨("worths_by", none), "worths_by", "worths_by", defArgs (top 30), defBody (top 30), defScope (top 30), [], []⟩
def e48 : He.DefD := ⟨("space_of", none), "space_of", "space_of", defArgs (top 31), defBody (top 31), defScope (top 31), [], []⟩
def e8 : He.DefD := ⟨("is_part", none), "is_part", "is_part", defArgs (top 32), defBody (top 32), defScope (top 32), [], []⟩
def e9 : He.DefD := ⟨("is_lot", none), "is_lot", "is_lot", defArgs (top 33), defBody (top 33), defScope (top 33), [], []⟩
def e10 : He.DefD := ⟨("check_lot", none), "check_lot", "check_lot", defArgs (top 34), defBody (top 34), defScope (top 34), [], []⟩
def e51 : He.DefD := ⟨("Rule", some "__init__"), "__init__", "Rule.__init__", defArgs (inClass (top 35) 0), defBody (inClass (top 35) 0), defScope (inClass (top 35) 0), [], []⟩
def e57 : He.DefD := ⟨("Rule", some "worth"), "worth", "Rule.worth", defArgs (inClass (top 35) 8), defBody (inClass (top 35) 8), defScope (inClass (top 35) 8), [], []⟩
def e58 : He.DefD := ⟨("Rule", some "reckoned"), "reckoned", "Rule.reckoned", defArgs (inClass (top 35) 9), defBody (inClass (top 35) 9), defScope (inClass (top 35) 9), [], []⟩
def e59 : He.DefD := ⟨("Rule", some "boxes"), "boxes", "Rule.boxes", defArgs (inClass (top 35) 10), defBody (inClass (top 35) 10), defScope (inClass (top 35) 10), [], []⟩
def e12 : He.DefD := ⟨("_law_pot", none), "_law_pot", "_law_pot", defArgs (top 37), defBody (top 37), defScope (top 37), [], []⟩
def e13 : He.DefD := ⟨("_law_take", none), "_law_take", "_law_take", defArgs (top 38), defBody (top 38), defScope (top 38), [], []⟩
def e14 : He.DefD := ⟨("_law_of", none), "_law_of", "_law_of", defArgs (top 39), defBody (top 39), defScope (top 39), [], []⟩
def e82 : He.DefD := ⟨("_law_some", none), "_law_some", "_law_some", defArgs (top 40), defBody (top 40), defScope (top 40), [], []⟩
def e15 : He.DefD := ⟨("_law_cells", none), "_law_cells", "_law_cells", defArgs (top 41), defBody (top 41), defScope (top 41), [], []⟩
def e16 : He.DefD := ⟨("_law_number", none), "_law_number", "_law_number", defArgs (top 42), defBody (top 42), defScope (top 42), [], []⟩
def e81 : He.DefD := ⟨("_law_up", none), "_law_up", "_law_up", defArgs (top 43), defBody (top 43), defScope (top 43), [], []⟩
def e76 : He.DefD := ⟨("_law_text", none), "_law_text", "_law_text", defArgs (top 44), defBody (top 44), defScope (top 44), [], []⟩
def e66 : He.DefD := ⟨("_law_rule", none), "_law_rule", "_law_rule", defArgs (top 45), defBody (top 45), defScope (top 45), [], []⟩
def e79 : He.DefD := ⟨("_law_lore", none), "_law_lore", "_law_lore", defArgs (top 46), defBody (top 46), defScope (top 46), [], []⟩
def e19 : He.DefD := ⟨("_law_size", none), "_law_size", "_law_size", defArgs (top 47), defBody (top 47), defScope (top 47), [], []⟩
def e20 : He.DefD := ⟨("_law_lot", none), "_law_lot", "_law_lot", defArgs (top 48), defBody (top 48), defScope (top 48), [], []⟩
def e80 : He.DefD := ⟨("_law_reached", none), "_law_reached", "_law_reached", defArgs (top 49), defBody (top 49), defScope (top 49), [], []⟩
def e78 : He.DefD := ⟨("_law_right", none), "_law_right", "_law_right", defArgs (top 50), defBody (top 50), defScope (top 50), [], []⟩
def e83 : He.DefD := ⟨("law", none), "law", "law", defArgs (top 51), defBody (top 51), defScope (top 51), [], []⟩
def fn : List He.DefD := [e0, e1, e42, e2, e4, e5, e40, e41, e39, e37, e38, e48, e8, e9, e10, e51, e57, e58, e59, e12, e13, e14, e82, e15, e16, e81, e76, e66, e79, e19, e20, e80, e78, e83]
def pr : List PrD := []
def fa : List He.Fa := [.glo "is_integer", .glo "is_tuple", .glo "integer_in", .glo "common", .glo "is_number", .glo "is_size", .glo "number_in", .glo "step_in", .glo "space_at", .glo "parts_of", .glo "worths_by", .glo "space_of", .glo "is_part", .glo "is_lot", .glo "check_lot", .glo "_law_pot", .glo "_law_take", .glo "_law_of", .glo "_law_some", .glo "_law_cells", .glo "_law_number", .glo "_law_up", .glo "_law_text", .glo "_law_rule", .glo "_law_lore", .glo "_law_size", .glo "_law_lot", .glo "_law_reached", .glo "_law_right", .glo "law", .glo "Rule", .free "len", .free "int", .free "abs", .free "str", .free "repr", .free "tuple", .free "sum", .free "all", .free "any", .free "max", .free "min", .free "isinstance", .free "range", .free "list", .free "enumerate", .free "zip", .free "set", .free "bool", .free "sorted", .free "dict", .str "DIGITS" "0123456789", .int "PAIR" 2, .str "BLANK" " ", .int "TRIPLE" 3, .str "FROM" "from", .str "BEYOND" "beyond", .int "MOST_WORTH" 999999999, .str "FEED" "\n", .str "BOX" "box", .int "MOST_BOX" 60, .str "BOUND" "bound", .noat "Rule" "own_bound", .noat "Rule" "own_box", .noat "Rule" "own_steps", .noat "Rule" "own_text", .noat "Rule" "own_worths", .mkr "Rule", .meth "Rule" "boxes", .meth "Rule" "reckoned", .meth "Rule" "worth"]
def ex (K : PySem.W.Frag) : Bool := ownB K "Rule"
def cls (n : Nat) : Str := ([("Rule" : Str)] : List Str).getD n ""
abbrev ca (K : PySem.W.Frag) : Nat → Addr := fun n => He.ga K (cls n)
theorem fac {α : Type} {P : α → Prop} {a : α} {l : List α} (h : P a) (t : ∀ x ∈ l, P x) : ∀ x ∈ a :: l, P x := fun x hx => by
  rcases List.mem_cons.mp hx with e | e
  · rw [e]; exact h
  · exact t x e
theorem fan {α : Type} {P : α → Prop} : ∀ x ∈ ([] : List α), P x := fun x hx => nomatch hx
theorem s0 : scopeB N0 P0 (defScope (top 12)) = true := by decide +kernel
theorem s1 : scopeB N1 P1 (defScope (top 13)) = true := by decide +kernel
theorem s42 : scopeB N42 P42 (defScope (top 15)) = true := by decide +kernel
theorem s2 : scopeB N2 P2 (defScope (top 16)) = true := by decide +kernel
theorem s4 : scopeB N4 P4 (defScope (top 17)) = true := by decide +kernel
theorem s5 : scopeB N5 P5 (defScope (top 18)) = true := by decide +kernel
theorem s40 : scopeB N40 P40 (defScope (top 26)) = true := by decide +kernel
theorem s41 : scopeB N41 P41 (defScope (top 27)) = true := by decide +kernel
theorem s39 : scopeB N39 P39 (defScope (top 28)) = true := by decide +kernel
theorem s37 : scopeB N37 P37 (defScope (top 29)) = true := by decide +kernel
theorem s38 : scopeB N38 P38 (defScope (top 30)) = true := by decide +kernel
theorem s48 : scopeB N48 P48 (defScope (top 31)) = true := by decide +kernel
theorem s8 : scopeB N8 P8 (defScope (top 32)) = true := by decide +kernel
theorem s9 : scopeB N9 P9 (defScope (top 33)) = true := by decide +kernel
theorem s10 : scopeB N10 P10 (defScope (top 34)) = true := by decide +kernel
theorem s51 : scopeB N51 P51 (defScope (inClass (top 35) 0)) = true := by decide +kernel
theorem s57 : scopeB N57 P57 (defScope (inClass (top 35) 8)) = true := by decide +kernel
theorem s58 : scopeB N58 P58 (defScope (inClass (top 35) 9)) = true := by decide +kernel
theorem s59 : scopeB N59 P59 (defScope (inClass (top 35) 10)) = true := by decide +kernel
theorem s12 : scopeB N12 P12 (defScope (top 37)) = true := by decide +kernel
theorem s13 : scopeB N13 P13 (defScope (top 38)) = true := by decide +kernel
theorem s14 : scopeB N14 P14 (defScope (top 39)) = true := by decide +kernel
theorem s82 : scopeB N82 P82 (defScope (top 40)) = true := by decide +kernel
theorem s15 : scopeB N15 P15 (defScope (top 41)) = true := by decide +kernel
theorem s16 : scopeB N16 P16 (defScope (top 42)) = true := by decide +kernel
theorem s81 : scopeB N81 P81 (defScope (top 43)) = true := by decide +kernel
theorem s76 : scopeB N76 P76 (defScope (top 44)) = true := by decide +kernel
theorem s66 : scopeB N66 P66 (defScope (top 45)) = true := by decide +kernel
theorem s79 : scopeB N79 P79 (defScope (top 46)) = true := by decide +kernel
theorem s19 : scopeB N19 P19 (defScope (top 47)) = true := by decide +kernel
theorem s20 : scopeB N20 P20 (defScope (top 48)) = true := by decide +kernel
theorem s80 : scopeB N80 P80 (defScope (top 49)) = true := by decide +kernel
theorem s78 : scopeB N78 P78 (defScope (top 50)) = true := by decide +kernel
theorem s83 : scopeB N83 P83 (defScope (top 51)) = true := by decide +kernel
theorem q0 {P : Program} {w : World} {K : PySem.W.Frag} {mg : Str → Option Value} {base : Heap} {fa : Addr} {fd : FuncData} {nm : Str} (F : FunD K e0.name e0.qual e0.params e0.body e0.scope (e0.dvs K) (e0.kws K) fa fd) : MRow U ⟨P, w, K, mg, base, ca K⟩ lk 0 nm fa fd P0 := ⟨_, _, _, _, _, _, _, N0, d0, F, scopeB_ok s0, rfl, rfl, rfl, c0⟩
theorem q1 {P : Program} {w : World} {K : PySem.W.Frag} {mg : Str → Option Value} {base : Heap} {fa : Addr} {fd : FuncData} {nm : Str} (F : FunD K e1.name e1.qual e1.params e1.body e1.scope (e1.dvs K) (e1.kws K) fa fd) : MRow U ⟨P, w, K, mg, base, ca K⟩ lk 1 nm fa fd P1 := ⟨_, _, _, _, _, _, _, N1, d1, F, scopeB_ok s1, rfl, rfl, rfl, c1⟩
theorem q42 {P : Program} {w : World} {K : PySem.W.Frag} {mg : Str → Option Value} {base : Heap} {fa : Addr} {fd : FuncData} {nm : Str} (F : FunD K e42.name e42.qual e42.params e42.body e42.scope (e42.dvs K) (e42.kws K) fa fd) : MRow U ⟨P, w, K, mg, base, ca K⟩ lk 42 nm fa fd P42 := ⟨_, _, _, _, _, _, _, N42, d42, F, scopeB_ok s42, rfl, rfl, rfl, c42⟩
theorem q2 {P : Program} {w : World} {K : PySem.W.Frag} {mg : Str → Option Value} {base : Heap} {fa : Addr} {fd : FuncData} {nm : Str} (F : FunD K e2.name e2.qual e2.params e2.body e2.scope (e2.dvs K) (e2.kws K) fa fd) : MRow U ⟨P, w, K, mg, base, ca K⟩ lk 2 nm fa fd P2 := ⟨_, _, _, _, _, _, _, N2, d2, F, scopeB_ok s2, rfl, rfl, rfl, c2⟩
theorem q4 {P : Program} {w : World} {K : PySem.W.Frag} {mg : Str → Option Value} {base : Heap} {fa : Addr} {fd : FuncData} {nm : Str} (F : FunD K e4.name e4.qual e4.params e4.body e4.scope (e4.dvs K) (e4.kws K) fa fd) : MRow U ⟨P, w, K, mg, base, ca K⟩ lk 4 nm fa fd P4 := ⟨_, _, _, _, _, _, _, N4, d4, F, scopeB_ok s4, rfl, rfl, rfl, c4⟩
theorem q5 {P : Program} {w : World} {K : PySem.W.Frag} {mg : Str → Option Value} {base : Heap} {fa : Addr} {fd : FuncData} {nm : Str} (F : FunD K e5.name e5.qual e5.params e5.body e5.scope (e5.dvs K) (e5.kws K) fa fd) : MRow U ⟨P, w, K, mg, base, ca K⟩ lk 5 nm fa fd P5 := ⟨_, _, _, _, _, _, _, N5, d5, F, scopeB_ok s5, rfl, rfl, rfl, c5⟩
theorem q40 {P : Program} {w : World} {K : PySem.W.Frag} {mg : Str → Option Value} {base : Heap} {fa : Addr} {fd : FuncData} {nm : Str} (F : FunD K e40.name e40.qual e40.params e40.body e40.scope (e40.dvs K) (e40.kws K) fa fd) : MRow U ⟨P, w, K, mg, base, ca K⟩ lk 40 nm fa fd P40 := ⟨_, _, _, _, _, _, _, N40, d40, F, scopeB_ok s40, rfl, rfl, rfl, c40⟩
theorem q41 {P : Program} {w : World} {K : PySem.W.Frag} {mg : Str → Option Value} {base : Heap} {fa : Addr} {fd : FuncData} {nm : Str} (F : FunD K e41.name e41.qual e41.params e41.body e41.scope (e41.dvs K) (e41.kws K) fa fd) : MRow U ⟨P, w, K, mg, base, ca K⟩ lk 41 nm fa fd P41 := ⟨_, _, _, _, _, _, _, N41, d41, F, scopeB_ok s41, rfl, rfl, rfl, c41⟩
theorem q39 {P : Program} {w : World} {K : PySem.W.Frag} {mg : Str → Option Value} {base : Heap} {fa : Addr} {fd : FuncData} {nm : Str} (F : FunD K e39.name e39.qual e39.params e39.body e39.scope (e39.dvs K) (e39.kws K) fa fd) : MRow U ⟨P, w, K, mg, base, ca K⟩ lk 39 nm fa fd P39 := ⟨_, _, _, _, _, _, _, N39, d39, F, scopeB_ok s39, rfl, rfl, rfl, c39⟩
theorem q37 {P : Program} {w : World} {K : PySem.W.Frag} {mg : Str → Option Value} {base : Heap} {fa : Addr} {fd : FuncData} {nm : Str} (F : FunD K e37.name e37.qual e37.params e37.body e37.scope (e37.dvs K) (e37.kws K) fa fd) : MRow U ⟨P, w, K, mg, base, ca K⟩ lk 37 nm fa fd P37 := ⟨_, _, _, _, _, _, _, N37, d37, F, scopeB_ok s37, rfl, rfl, rfl, c37⟩
theorem q38 {P : Program} {w : World} {K : PySem.W.Frag} {mg : Str → Option Value} {base : Heap} {fa : Addr} {fd : FuncData} {nm : Str} (F : FunD K e38.name e38.qual e38.params e38.body e38.scope (e38.dvs K) (e38.kws K) fa fd) : MRow U ⟨P, w, K, mg, base, ca K⟩ lk 38 nm fa fd P38 := ⟨_, _, _, _, _, _, _, N38, d38, F, scopeB_ok s38, rfl, rfl, rfl, c38⟩
theorem q48 {P : Program} {w : World} {K : PySem.W.Frag} {mg : Str → Option Value} {base : Heap} {fa : Addr} {fd : FuncData} {nm : Str} (F : FunD K e48.name e48.qual e48.params e48.body e48.scope (e48.dvs K) (e48.kws K) fa fd) : MRow U ⟨P, w, K, mg, base, ca K⟩ lk 48 nm fa fd P48 := ⟨_, _, _, _, _, _, _, N48, d48, F, scopeB_ok s48, rfl, rfl, rfl, c48⟩
theorem q8 {P : Program} {w : World} {K : PySem.W.Frag} {mg : Str → Option Value} {base : Heap} {fa : Addr} {fd : FuncData} {nm : Str} (F : FunD K e8.name e8.qual e8.params e8.body e8.scope (e8.dvs K) (e8.kws K) fa fd) : MRow U ⟨P, w, K, mg, base, ca K⟩ lk 8 nm fa fd P8 := ⟨_, _, _, _, _, _, _, N8, d8, F, scopeB_ok s8, rfl, rfl, rfl, c8⟩
theorem q9 {P : Program} {w : World} {K : PySem.W.Frag} {mg : Str → Option Value} {base : Heap} {fa : Addr} {fd : FuncData} {nm : Str} (F : FunD K e9.name e9.qual e9.params e9.body e9.scope (e9.dvs K) (e9.kws K) fa fd) : MRow U ⟨P, w, K, mg, base, ca K⟩ lk 9 nm fa fd P9 := ⟨_, _, _, _, _, _, _, N9, d9, F, scopeB_ok s9, rfl, rfl, rfl, c9⟩
theorem q10 {P : Program} {w : World} {K : PySem.W.Frag} {mg : Str → Option Value} {base : Heap} {fa : Addr} {fd : FuncData} {nm : Str} (F : FunD K e10.name e10.qual e10.params e10.body e10.scope (e10.dvs K) (e10.kws K) fa fd) : MRow U ⟨P, w, K, mg, base, ca K⟩ lk 10 nm fa fd P10 := ⟨_, _, _, _, _, _, _, N10, d10, F, scopeB_ok s10, rfl, rfl, rfl, c10⟩
theorem q57 {P : Program} {w : World} {K : PySem.W.Frag} {mg : Str → Option Value} {base : Heap} {fa : Addr} {fd : FuncData} {nm : Str} (F : FunD K e57.name e57.qual e57.params e57.body e57.scope (e57.dvs K) (e57.kws K) fa fd) : MRow U ⟨P, w, K, mg, base, ca K⟩ lk 57 nm fa fd P57 := ⟨_, _, _, _, _, _, _, N57, d57, F, scopeB_ok s57, rfl, rfl, rfl, c57⟩
theorem q58 {P : Program} {w : World} {K : PySem.W.Frag} {mg : Str → Option Value} {base : Heap} {fa : Addr} {fd : FuncData} {nm : Str} (F : FunD K e58.name e58.qual e58.params e58.body e58.scope (e58.dvs K) (e58.kws K) fa fd) : MRow U ⟨P, w, K, mg, base, ca K⟩ lk 58 nm fa fd P58 := ⟨_, _, _, _, _, _, _, N58, d58, F, scopeB_ok s58, rfl, rfl, rfl, c58⟩
theorem q59 {P : Program} {w : World} {K : PySem.W.Frag} {mg : Str → Option Value} {base : Heap} {fa : Addr} {fd : FuncData} {nm : Str} (F : FunD K e59.name e59.qual e59.params e59.body e59.scope (e59.dvs K) (e59.kws K) fa fd) : MRow U ⟨P, w, K, mg, base, ca K⟩ lk 59 nm fa fd P59 := ⟨_, _, _, _, _, _, _, N59, d59, F, scopeB_ok s59, rfl, rfl, rfl, c59⟩
theorem q12 {P : Program} {w : World} {K : PySem.W.Frag} {mg : Str → Option Value} {base : Heap} {fa : Addr} {fd : FuncData} {nm : Str} (F : FunD K e12.name e12.qual e12.params e12.body e12.scope (e12.dvs K) (e12.kws K) fa fd) : MRow U ⟨P, w, K, mg, base, ca K⟩ lk 12 nm fa fd P12 := ⟨_, _, _, _, _, _, _, N12, d12, F, scopeB_ok s12, rfl, rfl, rfl, c12⟩
theorem q13 {P : Program} {w : World} {K : PySem.W.Frag} {mg : Str → Option Value} {base : Heap} {fa : Addr} {fd : FuncData} {nm : Str} (F : FunD K e13.name e13.qual e13.params e13.body e13.scope (e13.dvs K) (e13.kws K) fa fd) : MRow U ⟨P, w, K, mg, base, ca K⟩ lk 13 nm fa fd P13 := ⟨_, _, _, _, _, _, _, N13, d13, F, scopeB_ok s13, rfl, rfl, rfl, c13⟩
theorem q14 {P : Program} {w : World} {K : PySem.W.Frag} {mg : Str → Option Value} {base : Heap} {fa : Addr} {fd : FuncData} {nm : Str} (F : FunD K e14.name e14.qual e14.params e14.body e14.scope (e14.dvs K) (e14.kws K) fa fd) : MRow U ⟨P, w, K, mg, base, ca K⟩ lk 14 nm fa fd P14 := ⟨_, _, _, _, _, _, _, N14, d14, F, scopeB_ok s14, rfl, rfl, rfl, c14⟩
theorem q82 {P : Program} {w : World} {K : PySem.W.Frag} {mg : Str → Option Value} {base : Heap} {fa : Addr} {fd : FuncData} {nm : Str} (F : FunD K e82.name e82.qual e82.params e82.body e82.scope (e82.dvs K) (e82.kws K) fa fd) : MRow U ⟨P, w, K, mg, base, ca K⟩ lk 82 nm fa fd P82 := ⟨_, _, _, _, _, _, _, N82, d82, F, scopeB_ok s82, rfl, rfl, rfl, c82⟩
theorem q15 {P : Program} {w : World} {K : PySem.W.Frag} {mg : Str → Option Value} {base : Heap} {fa : Addr} {fd : FuncData} {nm : Str} (F : FunD K e15.name e15.qual e15.params e15.body e15.scope (e15.dvs K) (e15.kws K) fa fd) : MRow U ⟨P, w, K, mg, base, ca K⟩ lk 15 nm fa fd P15 := ⟨_, _, _, _, _, _, _, N15, d15, F, scopeB_ok s15, rfl, rfl, rfl, c15⟩
theorem q16 {P : Program} {w : World} {K : PySem.W.Frag} {mg : Str → Option Value} {base : Heap} {fa : Addr} {fd : FuncData} {nm : Str} (F : FunD K e16.name e16.qual e16.params e16.body e16.scope (e16.dvs K) (e16.kws K) fa fd) : MRow U ⟨P, w, K, mg, base, ca K⟩ lk 16 nm fa fd P16 := ⟨_, _, _, _, _, _, _, N16, d16, F, scopeB_ok s16, rfl, rfl, rfl, c16⟩
theorem q81 {P : Program} {w : World} {K : PySem.W.Frag} {mg : Str → Option Value} {base : Heap} {fa : Addr} {fd : FuncData} {nm : Str} (F : FunD K e81.name e81.qual e81.params e81.body e81.scope (e81.dvs K) (e81.kws K) fa fd) : MRow U ⟨P, w, K, mg, base, ca K⟩ lk 81 nm fa fd P81 := ⟨_, _, _, _, _, _, _, N81, d81, F, scopeB_ok s81, rfl, rfl, rfl, c81⟩
theorem q76 {P : Program} {w : World} {K : PySem.W.Frag} {mg : Str → Option Value} {base : Heap} {fa : Addr} {fd : FuncData} {nm : Str} (F : FunD K e76.name e76.qual e76.params e76.body e76.scope (e76.dvs K) (e76.kws K) fa fd) : MRow U ⟨P, w, K, mg, base, ca K⟩ lk 76 nm fa fd P76 := ⟨_, _, _, _, _, _, _, N76, d76, F, scopeB_ok s76, rfl, rfl, rfl, c76⟩
theorem q66 {P : Program} {w : World} {K : PySem.W.Frag} {mg : Str → Option Value} {base : Heap} {fa : Addr} {fd : FuncData} {nm : Str} (F : FunD K e66.name e66.qual e66.params e66.body e66.scope (e66.dvs K) (e66.kws K) fa fd) : MRow U ⟨P, w, K, mg, base, ca K⟩ lk 66 nm fa fd P66 := ⟨_, _, _, _, _, _, _, N66, d66, F, scopeB_ok s66, rfl, rfl, rfl, c66⟩
theorem q79 {P : Program} {w : World} {K : PySem.W.Frag} {mg : Str → Option Value} {base : Heap} {fa : Addr} {fd : FuncData} {nm : Str} (F : FunD K e79.name e79.qual e79.params e79.body e79.scope (e79.dvs K) (e79.kws K) fa fd) : MRow U ⟨P, w, K, mg, base, ca K⟩ lk 79 nm fa fd P79 := ⟨_, _, _, _, _, _, _, N79, d79, F, scopeB_ok s79, rfl, rfl, rfl, c79⟩
theorem q19 {P : Program} {w : World} {K : PySem.W.Frag} {mg : Str → Option Value} {base : Heap} {fa : Addr} {fd : FuncData} {nm : Str} (F : FunD K e19.name e19.qual e19.params e19.body e19.scope (e19.dvs K) (e19.kws K) fa fd) : MRow U ⟨P, w, K, mg, base, ca K⟩ lk 19 nm fa fd P19 := ⟨_, _, _, _, _, _, _, N19, d19, F, scopeB_ok s19, rfl, rfl, rfl, c19⟩
theorem q20 {P : Program} {w : World} {K : PySem.W.Frag} {mg : Str → Option Value} {base : Heap} {fa : Addr} {fd : FuncData} {nm : Str} (F : FunD K e20.name e20.qual e20.params e20.body e20.scope (e20.dvs K) (e20.kws K) fa fd) : MRow U ⟨P, w, K, mg, base, ca K⟩ lk 20 nm fa fd P20 := ⟨_, _, _, _, _, _, _, N20, d20, F, scopeB_ok s20, rfl, rfl, rfl, c20⟩
theorem q80 {P : Program} {w : World} {K : PySem.W.Frag} {mg : Str → Option Value} {base : Heap} {fa : Addr} {fd : FuncData} {nm : Str} (F : FunD K e80.name e80.qual e80.params e80.body e80.scope (e80.dvs K) (e80.kws K) fa fd) : MRow U ⟨P, w, K, mg, base, ca K⟩ lk 80 nm fa fd P80 := ⟨_, _, _, _, _, _, _, N80, d80, F, scopeB_ok s80, rfl, rfl, rfl, c80⟩
theorem q78 {P : Program} {w : World} {K : PySem.W.Frag} {mg : Str → Option Value} {base : Heap} {fa : Addr} {fd : FuncData} {nm : Str} (F : FunD K e78.name e78.qual e78.params e78.body e78.scope (e78.dvs K) (e78.kws K) fa fd) : MRow U ⟨P, w, K, mg, base, ca K⟩ lk 78 nm fa fd P78 := ⟨_, _, _, _, _, _, _, N78, d78, F, scopeB_ok s78, rfl, rfl, rfl, c78⟩
theorem q83 {P : Program} {w : World} {K : PySem.W.Frag} {mg : Str → Option Value} {base : Heap} {fa : Addr} {fd : FuncData} {nm : Str} (F : FunD K e83.name e83.qual e83.params e83.body e83.scope (e83.dvs K) (e83.kws K) fa fd) : MRow U ⟨P, w, K, mg, base, ca K⟩ lk 83 nm fa fd P83 := ⟨_, _, _, _, _, _, _, N83, d83, F, scopeB_ok s83, rfl, rfl, rfl, c83⟩
section
variable {P : Program} {w : World} {K : PySem.W.Frag} {mg : Str → Option Value} {base h : Heap} (X : K.In h) (G : h.Ns mainGlobals mg) (c : SaysE fa fn pr ex K)
include X G c
theorem r0 : ∃ fa fd ps, FRow U ⟨P, w, K, mg, base, ca K⟩ lk 0 "is_integer" fa fd ps := by
  obtain ⟨fd, F⟩ := c.says.def_ 0 (d := e0) rfl
  exact ⟨_, fd, P0, He.glo_ok X G (c.says.fact 0 (f := .glo "is_integer") rfl), F.kp, (show ∀ dl ∈ ([[.non]] : List (List Lit)), ∃ ds, Binds K fd P0 ds ∧ Vals (dl.map Lit.V) ds from (fac (let ⟨ds, hv, hb⟩ := F.binds1 (ps := P0) 2 1 (by simp [He.DefD.dvs, e0]) rfl fun T kV doc pm an cdv ct us its h1 h2 => match us, its, h1, h2 with | [_, _], [_, _], _, _ => ⟨_, rfl, rfl⟩; ⟨ds, hb, hv⟩) fan)), q0 F⟩
theorem r1 : ∃ fa fd ps, FRow U ⟨P, w, K, mg, base, ca K⟩ lk 1 "is_tuple" fa fd ps := by
  obtain ⟨fd, F⟩ := c.says.def_ 1 (d := e1) rfl
  exact ⟨_, fd, P1, He.glo_ok X G (c.says.fact 1 (f := .glo "is_tuple") rfl), F.kp, (show ∀ dl ∈ ([[], [.non]] : List (List Lit)), ∃ ds, Binds K fd P1 ds ∧ Vals (dl.map Lit.V) ds from (fac (let ⟨ds, hv, hb⟩ := F.binds1 (ps := P1) 3 1 (by simp [He.DefD.dvs, e1]) rfl fun T kV doc pm an cdv ct us its h1 h2 => match us, its, h1, h2 with | [_, _, _], [_], _, _ => ⟨_, rfl, rfl⟩; ⟨ds, hb, hv⟩) (fac (let ⟨ds, hv, hb⟩ := F.binds1 (ps := P1) 2 0 (by simp [He.DefD.dvs, e1]) rfl fun T kV doc pm an cdv ct us its h1 h2 => match us, its, h1, h2 with | [_, _], [_], _, _ => ⟨_, rfl, rfl⟩; ⟨ds, hb, hv⟩) fan))), q1 F⟩
theorem r42 : ∃ fa fd ps, FRow U ⟨P, w, K, mg, base, ca K⟩ lk 42 "integer_in" fa fd ps := by
  obtain ⟨fd, F⟩ := c.says.def_ 2 (d := e42) rfl
  exact ⟨_, fd, P42, He.glo_ok X G (c.says.fact 2 (f := .glo "integer_in") rfl), F.kp, (show ∀ dl ∈ ([[]] : List (List Lit)), ∃ ds, Binds K fd P42 ds ∧ Vals (dl.map Lit.V) ds from (fac ⟨[], F.bindsN (ps := P42) fun _ _ _ _ _ _ us hl => match us, hl with | [_], _ => rfl, .nil⟩ fan)), q42 F⟩
theorem r2 : ∃ fa fd ps, FRow U ⟨P, w, K, mg, base, ca K⟩ lk 2 "common" fa fd ps := by
  obtain ⟨fd, F⟩ := c.says.def_ 3 (d := e2) rfl
  exact ⟨_, fd, P2, He.glo_ok X G (c.says.fact 3 (f := .glo "common") rfl), F.kp, (show ∀ dl ∈ ([[]] : List (List Lit)), ∃ ds, Binds K fd P2 ds ∧ Vals (dl.map Lit.V) ds from (fac ⟨[], F.bindsN (ps := P2) fun _ _ _ _ _ _ us hl => match us, hl with | [_, _], _ => rfl, .nil⟩ fan)), q2 F⟩
theorem r4 : ∃ fa fd ps, FRow U ⟨P, w, K, mg, base, ca K⟩ lk 4 "is_number" fa fd ps := by
  obtain ⟨fd, F⟩ := c.says.def_ 4 (d := e4) rfl
  exact ⟨_, fd, P4, He.glo_ok X G (c.says.fact 4 (f := .glo "is_number") rfl), F.kp, (show ∀ dl ∈ ([[]] : List (List Lit)), ∃ ds, Binds K fd P4 ds ∧ Vals (dl.map Lit.V) ds from (fac ⟨[], F.bindsN (ps := P4) fun _ _ _ _ _ _ us hl => match us, hl with | [_], _ => rfl, .nil⟩ fan)), q4 F⟩
theorem r5 : ∃ fa fd ps, FRow U ⟨P, w, K, mg, base, ca K⟩ lk 5 "is_size" fa fd ps := by
  obtain ⟨fd, F⟩ := c.says.def_ 5 (d := e5) rfl
  exact ⟨_, fd, P5, He.glo_ok X G (c.says.fact 5 (f := .glo "is_size") rfl), F.kp, (show ∀ dl ∈ ([[]] : List (List Lit)), ∃ ds, Binds K fd P5 ds ∧ Vals (dl.map Lit.V) ds from (fac ⟨[], F.bindsN (ps := P5) fun _ _ _ _ _ _ us hl => match us, hl with | [_, _], _ => rfl, .nil⟩ fan)), q5 F⟩
theorem r40 : ∃ fa fd ps, FRow U ⟨P, w, K, mg, base, ca K⟩ lk 40 "number_in" fa fd ps := by
  obtain ⟨fd, F⟩ := c.says.def_ 6 (d := e40) rfl
  exact ⟨_, fd, P40, He.glo_ok X G (c.says.fact 6 (f := .glo "number_in") rfl), F.kp, (show ∀ dl ∈ ([[]] : List (List Lit)), ∃ ds, Binds K fd P40 ds ∧ Vals (dl.map Lit.V) ds from (fac ⟨[], F.bindsN (ps := P40) fun _ _ _ _ _ _ us hl => match us, hl with | [_, _, _], _ => rfl, .nil⟩ fan)), q40 F⟩
theorem r41 : ∃ fa fd ps, FRow U ⟨P, w, K, mg, base, ca K⟩ lk 41 "step_in" fa fd ps := by
  obtain ⟨fd, F⟩ := c.says.def_ 7 (d := e41) rfl
  exact ⟨_, fd, P41, He.glo_ok X G (c.says.fact 7 (f := .glo "step_in") rfl), F.kp, (show ∀ dl ∈ ([[]] : List (List Lit)), ∃ ds, Binds K fd P41 ds ∧ Vals (dl.map Lit.V) ds from (fac ⟨[], F.bindsN (ps := P41) fun _ _ _ _ _ _ us hl => match us, hl with | [_, _], _ => rfl, .nil⟩ fan)), q41 F⟩
theorem r39 : ∃ fa fd ps, FRow U ⟨P, w, K, mg, base, ca K⟩ lk 39 "space_at" fa fd ps := by
  obtain ⟨fd, F⟩ := c.says.def_ 8 (d := e39) rfl
  exact ⟨_, fd, P39, He.glo_ok X G (c.says.fact 8 (f := .glo "space_at") rfl), F.kp, (show ∀ dl ∈ ([[]] : List (List Lit)), ∃ ds, Binds K fd P39 ds ∧ Vals (dl.map Lit.V) ds from (fac ⟨[], F.bindsN (ps := P39) fun _ _ _ _ _ _ us hl => match us, hl with | [_], _ => rfl, .nil⟩ fan)), q39 F⟩
theorem r37 : ∃ fa fd ps, FRow U ⟨P, w, K, mg, base, ca K⟩ lk 37 "parts_of" fa fd ps := by
  obtain ⟨fd, F⟩ := c.says.def_ 9 (d := e37) rfl
  exact ⟨_, fd, P37, He.glo_ok X G (c.says.fact 9 (f := .glo "parts_of") rfl), F.kp, (show ∀ dl ∈ ([[]] : List (List Lit)), ∃ ds, Binds K fd P37 ds ∧ Vals (dl.map Lit.V) ds from (fac ⟨[], F.bindsN (ps := P37) fun _ _ _ _ _ _ us hl => match us, hl with | [_], _ => rfl, .nil⟩ fan)), q37 F⟩
theorem r38 : ∃ fa fd ps, FRow U ⟨P, w, K, mg, base, ca K⟩ lk 38 "worths_by" fa fd ps := by
  obtain ⟨fd, F⟩ := c.says.def_ 10 (d := e38) rfl
  exact ⟨_, fd, P38, He.glo_ok X G (c.says.fact 10 (f := .glo "worths_by") rfl), F.kp, (show ∀ dl ∈ ([[]] : List (List Lit)), ∃ ds, Binds K fd P38 ds ∧ Vals (dl.map Lit.V) ds from (fac ⟨[], F.bindsN (ps := P38) fun _ _ _ _ _ _ us hl => match us, hl with | [_, _], _ => rfl, .nil⟩ fan)), q38 F⟩
theorem r48 : ∃ fa fd ps, FRow U ⟨P, w, K, mg, base, ca K⟩ lk 48 "space_of" fa fd ps := by
  obtain ⟨fd, F⟩ := c.says.def_ 11 (d := e48) rfl
  exact ⟨_, fd, P48, He.glo_ok X G (c.says.fact 11 (f := .glo "space_of") rfl), F.kp, (show ∀ dl ∈ ([[]] : List (List Lit)), ∃ ds, Binds K fd P48 ds ∧ Vals (dl.map Lit.V) ds from (fac ⟨[], F.bindsN (ps := P48) fun _ _ _ _ _ _ us hl => match us, hl with | [_], _ => rfl, .nil⟩ fan)), q48 F⟩
theorem r8 : ∃ fa fd ps, FRow U ⟨P, w, K, mg, base, ca K⟩ lk 8 "is_part" fa fd ps := by
  obtain ⟨fd, F⟩ := c.says.def_ 12 (d := e8) rfl
  exact ⟨_, fd, P8, He.glo_ok X G (c.says.fact 12 (f := .glo "is_part") rfl), F.kp, (show ∀ dl ∈ ([[]] : List (List Lit)), ∃ ds, Binds K fd P8 ds ∧ Vals (dl.map Lit.V) ds from (fac ⟨[], F.bindsN (ps := P8) fun _ _ _ _ _ _ us hl => match us, hl with | [_, _], _ => rfl, .nil⟩ fan)), q8 F⟩
theorem r9 : ∃ fa fd ps, FRow U ⟨P, w, K, mg, base, ca K⟩ lk 9 "is_lot" fa fd ps := by
  obtain ⟨fd, F⟩ := c.says.def_ 13 (d := e9) rfl
  exact ⟨_, fd, P9, He.glo_ok X G (c.says.fact 13 (f := .glo "is_lot") rfl), F.kp, (show ∀ dl ∈ ([[]] : List (List Lit)), ∃ ds, Binds K fd P9 ds ∧ Vals (dl.map Lit.V) ds from (fac ⟨[], F.bindsN (ps := P9) fun _ _ _ _ _ _ us hl => match us, hl with | [_, _], _ => rfl, .nil⟩ fan)), q9 F⟩
theorem r10 : ∃ fa fd ps, FRow U ⟨P, w, K, mg, base, ca K⟩ lk 10 "check_lot" fa fd ps := by
  obtain ⟨fd, F⟩ := c.says.def_ 14 (d := e10) rfl
  exact ⟨_, fd, P10, He.glo_ok X G (c.says.fact 14 (f := .glo "check_lot") rfl), F.kp, (show ∀ dl ∈ ([[]] : List (List Lit)), ∃ ds, Binds K fd P10 ds ∧ Vals (dl.map Lit.V) ds from (fac ⟨[], F.bindsN (ps := P10) fun _ _ _ _ _ _ us hl => match us, hl with | [_, _], _ => rfl, .nil⟩ fan)), q10 F⟩
theorem r12 : ∃ fa fd ps, FRow U ⟨P, w, K, mg, base, ca K⟩ lk 12 "_law_pot" fa fd ps := by
  obtain ⟨fd, F⟩ := c.says.def_ 19 (d := e12) rfl
  exact ⟨_, fd, P12, He.glo_ok X G (c.says.fact 15 (f := .glo "_law_pot") rfl), F.kp, (show ∀ dl ∈ ([[]] : List (List Lit)), ∃ ds, Binds K fd P12 ds ∧ Vals (dl.map Lit.V) ds from (fac ⟨[], F.bindsN (ps := P12) fun _ _ _ _ _ _ us hl => match us, hl with | [_, _], _ => rfl, .nil⟩ fan)), q12 F⟩
theorem r13 : ∃ fa fd ps, FRow U ⟨P, w, K, mg, base, ca K⟩ lk 13 "_law_take" fa fd ps := by
  obtain ⟨fd, F⟩ := c.says.def_ 20 (d := e13) rfl
  exact ⟨_, fd, P13, He.glo_ok X G (c.says.fact 16 (f := .glo "_law_take") rfl), F.kp, (show ∀ dl ∈ ([[]] : List (List Lit)), ∃ ds, Binds K fd P13 ds ∧ Vals (dl.map Lit.V) ds from (fac ⟨[], F.bindsN (ps := P13) fun _ _ _ _ _ _ us hl => match us, hl with | [_, _], _ => rfl, .nil⟩ fan)), q13 F⟩
theorem r14 : ∃ fa fd ps, FRow U ⟨P, w, K, mg, base, ca K⟩ lk 14 "_law_of" fa fd ps := by
  obtain ⟨fd, F⟩ := c.says.def_ 21 (d := e14) rfl
  exact ⟨_, fd, P14, He.glo_ok X G (c.says.fact 17 (f := .glo "_law_of") rfl), F.kp, (show ∀ dl ∈ ([[]] : List (List Lit)), ∃ ds, Binds K fd P14 ds ∧ Vals (dl.map Lit.V) ds from (fac ⟨[], F.bindsN (ps := P14) fun _ _ _ _ _ _ us hl => match us, hl with | [_, _], _ => rfl, .nil⟩ fan)), q14 F⟩
theorem r82 : ∃ fa fd ps, FRow U ⟨P, w, K, mg, base, ca K⟩ lk 82 "_law_some" fa fd ps := by
  obtain ⟨fd, F⟩ := c.says.def_ 22 (d := e82) rfl
  exact ⟨_, fd, P82, He.glo_ok X G (c.says.fact 18 (f := .glo "_law_some") rfl), F.kp, (show ∀ dl ∈ ([[]] : List (List Lit)), ∃ ds, Binds K fd P82 ds ∧ Vals (dl.map Lit.V) ds from (fac ⟨[], F.bindsN (ps := P82) fun _ _ _ _ _ _ us hl => match us, hl with | [_, _, _], _ => rfl, .nil⟩ fan)), q82 F⟩
theorem r15 : ∃ fa fd ps, FRow U ⟨P, w, K, mg, base, ca K⟩ lk 15 "_law_cells" fa fd ps := by
  obtain ⟨fd, F⟩ := c.says.def_ 23 (d := e15) rfl
  exact ⟨_, fd, P15, He.glo_ok X G (c.says.fact 19 (f := .glo "_law_cells") rfl), F.kp, (show ∀ dl ∈ ([[]] : List (List Lit)), ∃ ds, Binds K fd P15 ds ∧ Vals (dl.map Lit.V) ds from (fac ⟨[], F.bindsN (ps := P15) fun _ _ _ _ _ _ us hl => match us, hl with | [_, _], _ => rfl, .nil⟩ fan)), q15 F⟩
theorem r16 : ∃ fa fd ps, FRow U ⟨P, w, K, mg, base, ca K⟩ lk 16 "_law_number" fa fd ps := by
  obtain ⟨fd, F⟩ := c.says.def_ 24 (d := e16) rfl
  exact ⟨_, fd, P16, He.glo_ok X G (c.says.fact 20 (f := .glo "_law_number") rfl), F.kp, (show ∀ dl ∈ ([[]] : List (List Lit)), ∃ ds, Binds K fd P16 ds ∧ Vals (dl.map Lit.V) ds from (fac ⟨[], F.bindsN (ps := P16) fun _ _ _ _ _ _ us hl => match us, hl with | [_, _], _ => rfl, .nil⟩ fan)), q16 F⟩
theorem r81 : ∃ fa fd ps, FRow U ⟨P, w, K, mg, base, ca K⟩ lk 81 "_law_up" fa fd ps := by
  obtain ⟨fd, F⟩ := c.says.def_ 25 (d := e81) rfl
  exact ⟨_, fd, P81, He.glo_ok X G (c.says.fact 21 (f := .glo "_law_up") rfl), F.kp, (show ∀ dl ∈ ([[]] : List (List Lit)), ∃ ds, Binds K fd P81 ds ∧ Vals (dl.map Lit.V) ds from (fac ⟨[], F.bindsN (ps := P81) fun _ _ _ _ _ _ us hl => match us, hl with | [_, _], _ => rfl, .nil⟩ fan)), q81 F⟩
theorem r76 : ∃ fa fd ps, FRow U ⟨P, w, K, mg, base, ca K⟩ lk 76 "_law_text" fa fd ps := by
  obtain ⟨fd, F⟩ := c.says.def_ 26 (d := e76) rfl
  exact ⟨_, fd, P76, He.glo_ok X G (c.says.fact 22 (f := .glo "_law_text") rfl), F.kp, (show ∀ dl ∈ ([[]] : List (List Lit)), ∃ ds, Binds K fd P76 ds ∧ Vals (dl.map Lit.V) ds from (fac ⟨[], F.bindsN (ps := P76) fun _ _ _ _ _ _ us hl => match us, hl with | [_], _ => rfl, .nil⟩ fan)), q76 F⟩
theorem r66 : ∃ fa fd ps, FRow U ⟨P, w, K, mg, base, ca K⟩ lk 66 "_law_rule" fa fd ps := by
  obtain ⟨fd, F⟩ := c.says.def_ 27 (d := e66) rfl
  exact ⟨_, fd, P66, He.glo_ok X G (c.says.fact 23 (f := .glo "_law_rule") rfl), F.kp, (show ∀ dl ∈ ([[]] : List (List Lit)), ∃ ds, Binds K fd P66 ds ∧ Vals (dl.map Lit.V) ds from (fac ⟨[], F.bindsN (ps := P66) fun _ _ _ _ _ _ us hl => match us, hl with | [_], _ => rfl, .nil⟩ fan)), q66 F⟩
theorem r79 : ∃ fa fd ps, FRow U ⟨P, w, K, mg, base, ca K⟩ lk 79 "_law_lore" fa fd ps := by
  obtain ⟨fd, F⟩ := c.says.def_ 28 (d := e79) rfl
  exact ⟨_, fd, P79, He.glo_ok X G (c.says.fact 24 (f := .glo "_law_lore") rfl), F.kp, (show ∀ dl ∈ ([[]] : List (List Lit)), ∃ ds, Binds K fd P79 ds ∧ Vals (dl.map Lit.V) ds from (fac ⟨[], F.bindsN (ps := P79) fun _ _ _ _ _ _ us hl => match us, hl with | [_, _, _], _ => rfl, .nil⟩ fan)), q79 F⟩
theorem r19 : ∃ fa fd ps, FRow U ⟨P, w, K, mg, base, ca K⟩ lk 19 "_law_size" fa fd ps := by
  obtain ⟨fd, F⟩ := c.says.def_ 29 (d := e19) rfl
  exact ⟨_, fd, P19, He.glo_ok X G (c.says.fact 25 (f := .glo "_law_size") rfl), F.kp, (show ∀ dl ∈ ([[]] : List (List Lit)), ∃ ds, Binds K fd P19 ds ∧ Vals (dl.map Lit.V) ds from (fac ⟨[], F.bindsN (ps := P19) fun _ _ _ _ _ _ us hl => match us, hl with | [_, _], _ => rfl, .nil⟩ fan)), q19 F⟩
theorem r20 : ∃ fa fd ps, FRow U ⟨P, w, K, mg, base, ca K⟩ lk 20 "_law_lot" fa fd ps := by
  obtain ⟨fd, F⟩ := c.says.def_ 30 (d := e20) rfl
  exact ⟨_, fd, P20, He.glo_ok X G (c.says.fact 26 (f := .glo "_law_lot") rfl), F.kp, (show ∀ dl ∈ ([[]] : List (List Lit)), ∃ ds, Binds K fd P20 ds ∧ Vals (dl.map Lit.V) ds from (fac ⟨[], F.bindsN (ps := P20) fun _ _ _ _ _ _ us hl => match us, hl with | [_, _, _], _ => rfl, .nil⟩ fan)), q20 F⟩
theorem r80 : ∃ fa fd ps, FRow U ⟨P, w, K, mg, base, ca K⟩ lk 80 "_law_reached" fa fd ps := by
  obtain ⟨fd, F⟩ := c.says.def_ 31 (d := e80) rfl
  exact ⟨_, fd, P80, He.glo_ok X G (c.says.fact 27 (f := .glo "_law_reached") rfl), F.kp, (show ∀ dl ∈ ([[]] : List (List Lit)), ∃ ds, Binds K fd P80 ds ∧ Vals (dl.map Lit.V) ds from (fac ⟨[], F.bindsN (ps := P80) fun _ _ _ _ _ _ us hl => match us, hl with | [_, _], _ => rfl, .nil⟩ fan)), q80 F⟩
theorem r78 : ∃ fa fd ps, FRow U ⟨P, w, K, mg, base, ca K⟩ lk 78 "_law_right" fa fd ps := by
  obtain ⟨fd, F⟩ := c.says.def_ 32 (d := e78) rfl
  exact ⟨_, fd, P78, He.glo_ok X G (c.says.fact 28 (f := .glo "_law_right") rfl), F.kp, (show ∀ dl ∈ ([[]] : List (List Lit)), ∃ ds, Binds K fd P78 ds ∧ Vals (dl.map Lit.V) ds from (fac ⟨[], F.bindsN (ps := P78) fun _ _ _ _ _ _ us hl => match us, hl with | [_], _ => rfl, .nil⟩ fan)), q78 F⟩
theorem r83 : ∃ fa fd ps, FRow U ⟨P, w, K, mg, base, ca K⟩ lk 83 "law" fa fd ps := by
  obtain ⟨fd, F⟩ := c.says.def_ 33 (d := e83) rfl
  exact ⟨_, fd, P83, He.glo_ok X G (c.says.fact 29 (f := .glo "law") rfl), F.kp, (show ∀ dl ∈ ([[]] : List (List Lit)), ∃ ds, Binds K fd P83 ds ∧ Vals (dl.map Lit.V) ds from (fac ⟨[], F.bindsN (ps := P83) fun _ _ _ _ _ _ us hl => match us, hl with | [_], _ => rfl, .nil⟩ fan)), q83 F⟩
theorem hf : ∀ p ∈ lfn, ∃ fa fd ps, FRow U ⟨P, w, K, mg, base, ca K⟩ lk p.1 p.2 fa fd ps := (fac (r0 X G c) (fac (r1 X G c) (fac (r42 X G c) (fac (r2 X G c) (fac (r4 X G c) (fac (r5 X G c) (fac (r40 X G c) (fac (r41 X G c) (fac (r39 X G c) (fac (r37 X G c) (fac (r38 X G c) (fac (r48 X G c) (fac (r8 X G c) (fac (r9 X G c) (fac (r10 X G c) (fac (r12 X G c) (fac (r13 X G c) (fac (r14 X G c) (fac (r82 X G c) (fac (r15 X G c) (fac (r16 X G c) (fac (r81 X G c) (fac (r76 X G c) (fac (r66 X G c) (fac (r79 X G c) (fac (r19 X G c) (fac (r20 X G c) (fac (r80 X G c) (fac (r78 X G c) (fac (r83 X G c) fan))))))))))))))))))))))))))))))
theorem hg : ∀ p ∈ lgl, ∃ u, mg p.1 = some u ∧ RelV p.2.V u := (fac (let ⟨t, e⟩ := He.str_ok X G (c.says.fact 51 (f := .str "DIGITS" "0123456789") rfl); ⟨_, e, t, rfl⟩) (fac (let ⟨t, e⟩ := He.int_ok X G (c.says.fact 52 (f := .int "PAIR" 2) rfl); ⟨_, e, t, rfl⟩) (fac (let ⟨t, e⟩ := He.str_ok X G (c.says.fact 53 (f := .str "BLANK" " ") rfl); ⟨_, e, t, rfl⟩) (fac (let ⟨t, e⟩ := He.int_ok X G (c.says.fact 54 (f := .int "TRIPLE" 3) rfl); ⟨_, e, t, rfl⟩) (fac (let ⟨t, e⟩ := He.str_ok X G (c.says.fact 55 (f := .str "FROM" "from") rfl); ⟨_, e, t, rfl⟩) (fac (let ⟨t, e⟩ := He.str_ok X G (c.says.fact 56 (f := .str "BEYOND" "beyond") rfl); ⟨_, e, t, rfl⟩) (fac (let ⟨t, e⟩ := He.int_ok X G (c.says.fact 57 (f := .int "MOST_WORTH" 999999999) rfl); ⟨_, e, t, rfl⟩) (fac (let ⟨t, e⟩ := He.str_ok X G (c.says.fact 58 (f := .str "FEED" "\n") rfl); ⟨_, e, t, rfl⟩) (fac (let ⟨t, e⟩ := He.str_ok X G (c.says.fact 59 (f := .str "BOX" "box") rfl); ⟨_, e, t, rfl⟩) (fac (let ⟨t, e⟩ := He.int_ok X G (c.says.fact 60 (f := .int "MOST_BOX" 60) rfl); ⟨_, e, t, rfl⟩) (fac (let ⟨t, e⟩ := He.str_ok X G (c.says.fact 61 (f := .str "BOUND" "bound") rfl); ⟨_, e, t, rfl⟩) fan)))))))))))
theorem hb : ∀ x ∈ biNames, mg x = none := (fac (He.free_ok X G (c.says.fact 31 (f := .free "len") rfl)) (fac (He.free_ok X G (c.says.fact 32 (f := .free "int") rfl)) (fac (He.free_ok X G (c.says.fact 33 (f := .free "abs") rfl)) (fac (He.free_ok X G (c.says.fact 34 (f := .free "str") rfl)) (fac (He.free_ok X G (c.says.fact 35 (f := .free "repr") rfl)) (fac (He.free_ok X G (c.says.fact 36 (f := .free "tuple") rfl)) (fac (He.free_ok X G (c.says.fact 37 (f := .free "sum") rfl)) (fac (He.free_ok X G (c.says.fact 38 (f := .free "all") rfl)) (fac (He.free_ok X G (c.says.fact 39 (f := .free "any") rfl)) (fac (He.free_ok X G (c.says.fact 40 (f := .free "max") rfl)) (fac (He.free_ok X G (c.says.fact 41 (f := .free "min") rfl)) (fac (He.free_ok X G (c.says.fact 42 (f := .free "isinstance") rfl)) (fac (He.free_ok X G (c.says.fact 43 (f := .free "range") rfl)) (fac (He.free_ok X G (c.says.fact 44 (f := .free "list") rfl)) (fac (He.free_ok X G (c.says.fact 45 (f := .free "enumerate") rfl)) (fac (He.free_ok X G (c.says.fact 46 (f := .free "zip") rfl)) (fac (He.free_ok X G (c.says.fact 47 (f := .free "set") rfl)) (fac (He.free_ok X G (c.says.fact 48 (f := .free "bool") rfl)) (fac (He.free_ok X G (c.says.fact 49 (f := .free "sorted") rfl)) (fac (He.free_ok X G (c.says.fact 50 (f := .free "dict") rfl)) fan))))))))))))))))))))
theorem ht : ∀ p ∈ lgt, ∃ a, mg p.1 = some (.ref a) ∧ ∀ H, SqT K H a (p.2.map V.int) := fan
theorem hm50 : ∀ z ∈ ([(0, 59)] : List (Nat × Nat)), ∃ nm fa fd ps, Cls K (ca K z.1) ∧ Meth K (ca K z.1) "boxes" fa ∧ (∀ dl ∈ ([[]] : List (List Lit)), ∃ ds, Binds K fd ps ds ∧ Vals (dl.map Lit.V) ds) ∧ MRow U ⟨P, w, K, mg, base, ca K⟩ lk z.2 nm fa fd ps := by
  have g59 := c.says.def_ 18 (d := e59) rfl
  exact (fac ⟨"boxes", _, _, P59, (ownB_ok (show ex K = true from c.ex)).cls, He.meth_ok (c.says.fact 68 (f := .meth "Rule" "boxes") rfl), (let F := g59.choose_spec; (fac ⟨[], F.bindsN (ps := P59) fun _ _ _ _ _ _ us hl => match us, hl with | [_, _], _ => rfl, .nil⟩ fan)), q59 g59.choose_spec⟩ fan)
theorem hm49 : ∀ z ∈ ([(0, 58)] : List (Nat × Nat)), ∃ nm fa fd ps, Cls K (ca K z.1) ∧ Meth K (ca K z.1) "reckoned" fa ∧ (∀ dl ∈ ([[]] : List (List Lit)), ∃ ds, Binds K fd ps ds ∧ Vals (dl.map Lit.V) ds) ∧ MRow U ⟨P, w, K, mg, base, ca K⟩ lk z.2 nm fa fd ps := by
  have g58 := c.says.def_ 17 (d := e58) rfl
  exact (fac ⟨"reckoned", _, _, P58, (ownB_ok (show ex K = true from c.ex)).cls, He.meth_ok (c.says.fact 69 (f := .meth "Rule" "reckoned") rfl), (let F := g58.choose_spec; (fac ⟨[], F.bindsN (ps := P58) fun _ _ _ _ _ _ us hl => match us, hl with | [_, _], _ => rfl, .nil⟩ fan)), q58 g58.choose_spec⟩ fan)
theorem hm47 : ∀ z ∈ ([(0, 57)] : List (Nat × Nat)), ∃ nm fa fd ps, Cls K (ca K z.1) ∧ Meth K (ca K z.1) "worth" fa ∧ (∀ dl ∈ ([[]] : List (List Lit)), ∃ ds, Binds K fd ps ds ∧ Vals (dl.map Lit.V) ds) ∧ MRow U ⟨P, w, K, mg, base, ca K⟩ lk z.2 nm fa fd ps := by
  have g57 := c.says.def_ 16 (d := e57) rfl
  exact (fac ⟨"worth", _, _, P57, (ownB_ok (show ex K = true from c.ex)).cls, He.meth_ok (c.says.fact 70 (f := .meth "Rule" "worth") rfl), (let F := g57.choose_spec; (fac ⟨[], F.bindsN (ps := P57) fun _ _ _ _ _ _ us hl => match us, hl with | [_, _], _ => rfl, .nil⟩ fan)), q57 g57.choose_spec⟩ fan)
theorem hc28 : ∃ c fi fd ps, IRow U ⟨P, w, K, mg, base, ca K⟩ lk 28 c "Rule" fi fd ps := by
  obtain ⟨fd, F⟩ := c.says.def_ 15 (d := e51) rfl
  exact ⟨0, _, fd, P51, He.glo_ok X G (c.says.fact 30 (f := .glo "Rule") rfl), He.mkr_ok (c.says.fact 67 (f := .mkr "Rule") rfl), (ownB_ok (show ex K = true from c.ex)), (show ∀ dl ∈ ([[]] : List (List Lit)), ∃ ds, Binds K fd P51 ds ∧ Vals (dl.map Lit.V) ds from (fac ⟨[], F.bindsN (ps := P51) fun _ _ _ _ _ _ us hl => match us, hl with | [_, _], _ => rfl, .nil⟩ fan)), ⟨_, _, _, _, _, _, _, N51, d51, F, scopeB_ok s51, rfl, rfl, rfl, c51⟩⟩
theorem hn : ∀ p ∈ lna, OwnC K (ca K p.1) ∧ NoAttr K (ca K p.1) p.2 := (fac ⟨(ownB_ok (show ex K = true from c.ex)), He.noat_ok (c.says.fact 62 (f := .noat "Rule" "own_bound") rfl)⟩ (fac ⟨(ownB_ok (show ex K = true from c.ex)), He.noat_ok (c.says.fact 63 (f := .noat "Rule" "own_box") rfl)⟩ (fac ⟨(ownB_ok (show ex K = true from c.ex)), He.noat_ok (c.says.fact 64 (f := .noat "Rule" "own_steps") rfl)⟩ (fac ⟨(ownB_ok (show ex K = true from c.ex)), He.noat_ok (c.says.fact 65 (f := .noat "Rule" "own_text") rfl)⟩ (fac ⟨(ownB_ok (show ex K = true from c.ex)), He.noat_ok (c.says.fact 66 (f := .noat "Rule" "own_worths") rfl)⟩ fan)))))
theorem ho : ∀ p ∈ lcl, mg p.2 = some (.ref (ca K p.1)) ∧ OwnC K (ca K p.1) := (fac ⟨He.glo_ok X G (c.says.fact 30 (f := .glo "Rule") rfl), (ownB_ok (show ex K = true from c.ex))⟩ fan)
theorem hp : ∀ z ∈ lpn, ∃ l, U z.1 = some (.disp l) ∧ ∀ cc g, l.lookup cc = some g → ∃ nm fa fd ps q, Cls K (ca K cc) ∧ PropOf K (ca K cc) z.2 q fa ∧ Binds K fd ps [] ∧ MRow U ⟨P, w, K, mg, base, ca K⟩ lk g nm fa fd ps := fan
theorem hm : ∀ z ∈ lmn, ∃ l, U z.1 = some (.disp l) ∧ ∀ cc g, l.lookup cc = some g → ∃ nm fa fd ps, Cls K (ca K cc) ∧ Meth K (ca K cc) z.2 fa ∧ (∀ dl ∈ lk.dfl z.1, ∃ ds, Binds K fd ps ds ∧ Vals (dl.map Lit.V) ds) ∧ MRow U ⟨P, w, K, mg, base, ca K⟩ lk g nm fa fd ps := (fac ⟨_, rfl, fun cc g hl => hm50 X G c (cc, g) (lookup_mem hl)⟩ (fac ⟨_, rfl, fun cc g hl => hm49 X G c (cc, g) (lookup_mem hl)⟩ (fac ⟨_, rfl, fun cc g hl => hm47 X G c (cc, g) (lookup_mem hl)⟩ fan)))
theorem hc : ∀ z ∈ lcn, ∃ cc fi fd ps, IRow U ⟨P, w, K, mg, base, ca K⟩ lk z.1 cc z.2 fi fd ps := (fac (hc28 X G c) fan)
theorem hyp : ∀ k, Hyp U ⟨P, w, K, mg, base, ca K⟩ lk k := by
  refine hyp_all (fun f nm h1 => hf X G c (f, nm) (lookup_mem h1)) (fun x l h1 => hg X G c (x, l) (lookup_mem h1)) (hb X G c) (fun n x h1 => hp X G c (n, x) (lookup_mem h1)) (fun n x h1 => hm X G c (n, x) (lookup_mem h1)) (fun n x h1 => hc X G c (n, x) (lookup_mem h1)) (fun cc x h1 => hn X G c (cc, x) (of_decide_eq_true h1)) (fun cc x h1 => ho X G c (cc, x) (lookup_mem h1)) (fun n h1 => ?_) (fun x ns h1 => ht X G c (x, ns) (lookup_mem h1))
  exact nomatch (show false = true from h1)
end
end LT
set_option Elab.async false
set_option linter.all false
set_option maxRecDepth 100000
set_option maxHeartbeats 1000000
namespace LT
open PySem Pyi
/-- Euclid's loop -/
theorem gcd_loop {C : Pyi.Env → Hs → Out Bool} {G : Pyi.Env → Hs → OutS} {h : Hs} {e : Nat → Nat → Pyi.Env} (hC : ∀ a b, C (e a b) h = .ok (decide (0 < b)) h) (hG : ∀ a b, 0 < b → G (e a b) h = .ok .nxt (e b (a % b)) h) :
    ∀ (n a b : Nat), b < n → loopW C G n (e a b) h = .ok .nxt (e (Nat.gcd a b) 0) h
  | 0, _, _, hb => absurd hb (Nat.not_lt_zero _)
  | n + 1, a, b, hb => by
    rw [lw_s, hC]
    by_cases h0 : b = 0
    · subst h0
      simp
    · have hp : 0 < b := Nat.pos_of_ne_zero h0
      have ih := gcd_loop hC hG n b (a % b) (by have := Nat.mod_lt a hp; omega)
      simp [hp, hG a b hp, ih]
      rw [Nat.gcd_comm b (a % b), ← Nat.gcd_rec, Nat.gcd_comm]
theorem m_common {k : Nat} {h : Hs} (a b : Nat) (hb : b < laps) : callD U (k + 1) 2 [.int a, .int b] h = .ok (.int (Nat.gcd a b : Nat)) h := by
  rw [call_eq (d := d2) rfl rfl]
  have L := gcd_loop (h := h) (C := condW (callD U k) (.cmp .gt (.var 1) (.lit (.int 0)))) (G := turnW (callD U k) [.par [0, 1] [.var 1, .bin .mod (.var 0) (.var 1)]]) (e := fun a b => [some (.v (.int a)), some (.v (.int b))])
    (fun a b => by simp [condW_eq]) (fun a b hp => by
      have hp' : (0 : Int) < (b : Int) := by omega
      simp [turnW_eq, b_mod hp']) laps a b hb
  simp [d2, start_eq, L]
end LT
set_option Elab.async false
set_option linter.all false
set_option maxRecDepth 100000
set_option maxHeartbeats 4000000
namespace LT
open PySem Pyi
/-! ### the pot -/
/-- the pot at r: no more than c were taken by reckoning -/
def Pot (h : Hs) (r c : Nat) : Prop := ∃ own small cnt : Int, h[r]? = some (.lst [.int own, .int small, .int cnt]) ∧ 0 ≤ own ∧ (0 ≤ small ∧ small < 2 ^ 61) ∧ 0 ≤ cnt ∧ cnt ≤ c
theorem sm_of {i : Int} (h : i.natAbs < 2 ^ 4000) : sm i = true := decide_eq_true (Nat.lt_of_lt_of_le h (Nat.pow_le_pow_right (by decide) (by decide)))
/-- small numbers: below 2 ^ n -/
def Sm (n : Nat) (i : Int) : Prop := i.natAbs < 2 ^ n
theorem Sm.sm {n : Nat} {i : Int} (h : Sm n i) (hn : n ≤ 4000) : sm i = true := sm_of (Nat.lt_of_lt_of_le h (Nat.pow_le_pow_right (by decide) hn))
theorem Sm.mul {m n : Nat} {i j : Int} (h : Sm m i) (k : Sm n j) : Sm (m + n) (i * j) := by
  unfold Sm at *
  rw [Int.natAbs_mul, Nat.pow_add]
  rcases Nat.eq_zero_or_pos j.natAbs with z | z
  · rw [z, Nat.mul_zero]
    exact Nat.mul_pos (Nat.pow_pos (by decide)) (Nat.pow_pos (by decide))
  · exact Nat.lt_of_le_of_lt (Nat.mul_le_mul_right _ (Nat.le_of_lt h)) (Nat.mul_lt_mul_of_pos_left k (Nat.lt_of_le_of_lt (Nat.zero_le _) h))
theorem Sm.mono {m n : Nat} {i : Int} (h : Sm m i) (k : m ≤ n) : Sm n i := Nat.lt_of_lt_of_le h (Nat.pow_le_pow_right (by decide) k)
theorem Sm.add {n : Nat} {i j : Int} (h : Sm n i) (k : Sm n j) : Sm (n + 1) (i + j) := by
  unfold Sm at *
  rw [Nat.pow_succ]
  have := Int.natAbs_add_le i j
  omega
theorem Sm.emod {n : Nat} {i j : Int} (k : Sm n j) (hj : 0 < j) : Sm n (i % j) := by
  unfold Sm at *
  have h1 := Int.emod_nonneg i (Int.ne_of_gt hj)
  have h2 := Int.emod_lt_of_pos i hj
  omega
theorem Sm.nat {n : Nat} {i : Int} (h0 : 0 ≤ i) (h : i < 2 ^ n) : Sm n i := by
  unfold Sm
  have : (i.natAbs : Int) = i := Int.natAbs_of_nonneg h0
  have e : ((2 ^ n : Nat) : Int) = 2 ^ n := by rw [Int.natCast_pow]; rfl
  omega
theorem get_r {h : Hs} {r : Nat} {vs : List Val} (e : h[r]? = some (.lst vs)) (i : Int) : getH h (.ref r) (.int i) = atI vs i := by
  show (match h[r]? with
    | some (.lst vs) => atI vs i
    | _ => none) = _
  rw [e]
theorem set_r {h : Hs} {r : Nat} {vs : List Val} (e : h[r]? = some (.lst vs)) (i : Int) (v : Val) : setH h (.ref r) (.int i) v = (ixN vs.length i).map fun j => h.set r (.lst (vs.set j v)) := by
  show (match h[r]? with
    | some (.lst vs) => (ixN vs.length i).map fun j => h.set r (.lst (vs.set j v))
    | _ => none) = _
  rw [e]
theorem set_get {h : Hs} {r : Nat} {o o' : MObj} (e : h[r]? = some o) : (h.set r o')[r]? = some o' := List.getElem?_set_self (List.getElem?_eq_some_iff.mp e).1
theorem primes_at (i : Int) (h0 : 0 ≤ i) (h5 : i < 5) : ∃ p : Int, atI [Val.int 2147483647, Val.int 2147483629, Val.int 2147483587, Val.int 2147483579, Val.int 2147483563] i = some (.int p) ∧ 0 < p ∧ p < 2 ^ 31 := by
  have : i = 0 ∨ i = 1 ∨ i = 2 ∨ i = 3 ∨ i = 4 := by omega
  rcases this with rfl | rfl | rfl | rfl | rfl
  · exact ⟨2147483647, rfl, by decide, by decide⟩
  · exact ⟨2147483629, rfl, by decide, by decide⟩
  · exact ⟨2147483587, rfl, by decide, by decide⟩
  · exact ⟨2147483579, rfl, by decide, by decide⟩
  · exact ⟨2147483563, rfl, by decide, by decide⟩
theorem m_take {k : Nat} {h : Hs} {r c : Nat} (P : Pot h r c) (hc : c < 2 ^ 300) (u : Nat) (h0 : 0 < u) (hu : u < 2 ^ 2000) :
    ∃ (d : Nat) (h' : Hs), callD U (k + 1) 13 [.ref r, .int u] h = .ok (.int d) h' ∧ d < u ∧ Pot h' r (c + 1) ∧ h'.length = h.length := by
  obtain ⟨own, small, cnt, e, p1, ⟨p2, p3⟩, p4, p5⟩ := P
  have hu0 : (0 : Int) < (u : Int) := by omega
  have hu9 : (u : Int) < 2 ^ 9000 := by
    have : u < 2 ^ 9000 := Nat.lt_of_lt_of_le hu (Nat.pow_le_pow_right (by decide) (by decide))
    have e : ((2 ^ 9000 : Nat) : Int) = 2 ^ 9000 := by rw [Int.natCast_pow]; rfl
    omega
  rw [call_eq (d := d13) rfl rfl]
  by_cases ho : 0 < own
  · have m0 := Int.emod_nonneg own (Int.ne_of_gt hu0)
    have m1 := Int.emod_lt_of_pos own hu0
    have md : ((own % (u : Int)).toNat : Int) = own % (u : Int) := Int.toNat_of_nonneg m0
    refine ⟨(own % (u : Int)).toNat, h.set r (.lst [.int (own / (u : Int)), .int small, .int cnt]), ?_, by omega, ⟨own / (u : Int), small, cnt, set_get e, Int.ediv_nonneg p1 (by omega), ⟨p2, p3⟩, p4, by omega⟩, List.length_set ..⟩
    have i3 : ixN 3 0 = some 0 := rfl
    simp [d13, start_eq, get_r e, ho, b_mod hu0, b_fdiv hu0 hu9, set_r e, i3, md]
  · have eo : own = 0 := by omega
    subst eo
    have i3 : ixN 3 2 = some 2 := rfl
    have e2 : (h.set r (.lst [.int 0, .int small, .int (cnt + 1)]))[r]? = some (.lst [.int 0, .int small, .int (cnt + 1)]) := set_get e
    have q0 : 0 ≤ (cnt + 1) % 5 := Int.emod_nonneg _ (by decide)
    have q5 : (cnt + 1) % 5 < 5 := Int.emod_lt_of_pos _ (by decide)
    obtain ⟨p, ep, p0, p31⟩ := primes_at _ q0 q5
    have sp : Sm 31 p := Sm.nat (Int.le_of_lt p0) p31
    have hcc : cnt + 1 < 2 ^ 301 := by
      have e : ((2 ^ 300 : Nat) : Int) = 2 ^ 300 := by rw [Int.natCast_pow]; rfl
      have e2 : (2 ^ 301 : Int) = 2 * 2 ^ 300 := by decide
      have : (1 : Int) ≤ 2 ^ 300 := by decide
      omega
    have sc : Sm 301 (cnt + 1) := Sm.nat (by omega) hcc
    have ss : Sm 61 small := Sm.nat p2 p3
    have s1 : Sm 17 98897 := by unfold Sm; decide
    have s2 := s1.mul sc
    have s3 := s2.mul sc
    have s4 : Sm 620 (small + 98897 * (cnt + 1) * (cnt + 1)) := Sm.add (n := 619) (ss.mono (by decide)) s3
    have s5 : Sm 621 (small + 98897 * (cnt + 1) * (cnt + 1) + 101) := Sm.add (n := 620) s4 (by unfold Sm; decide)
    have pw : (small + 98897 * (cnt + 1) * (cnt + 1) + 101).natAbs < 2 ^ 100000 := Nat.lt_of_lt_of_le s5 (Nat.pow_le_pow_right (by decide) (by decide))
    generalize hM : (small + 98897 * (cnt + 1) * (cnt + 1) + 101) = M at s5 pw
    have s6 : Sm 31 (M ^ 3 % p) := sp.emod p0
    generalize hT : M ^ 3 % p = T at s6
    have s7 : Sm 14 (T % 10531) := Sm.emod (by unfold Sm; decide) (by decide)
    have s8 := Sm.mul (m := 8) (i := 197) (by unfold Sm; decide) sc
    have s9 : Sm 310 (T % 10531 + 197 * (cnt + 1)) := Sm.add (n := 309) (s7.mono (by decide)) s8
    generalize hW : T * (T % 10531 + 197 * (cnt + 1)) = W
    have wm : (0 : Int) ≤ W % 2305843009213693907 / 179 % (u : Int) := Int.emod_nonneg _ (Int.ne_of_gt hu0)
    have wl := Int.emod_lt_of_pos (W % 2305843009213693907 / 179) hu0
    have wd := Int.toNat_of_nonneg wm
    refine ⟨(W % 2305843009213693907 / 179 % (u : Int)).toNat, h.set r (.lst [.int 0, .int small, .int (cnt + 1)]), ?_, by omega, ⟨0, small, cnt + 1, e2, by decide, ⟨p2, p3⟩, by omega, by omega⟩, List.length_set ..⟩
    have i179 : (179 : Int) < 2 ^ 9000 := by decide +kernel
    have pw3 : binop .pow (.int M) (.int 3) = some (.int (M ^ 3)) := b_pow (by decide) (by decide) pw
    simp [d13, start_eq, get_r e, get_r e2, set_r e, i3, b_mod, ep, b_mul (s1.sm (by decide)) (sc.sm (by decide)), b_mul (s2.sm (by decide)) (sc.sm (by decide)), hM, pw3, b_mod p0, hT,
      b_mul (Sm.sm (n := 8) (i := 197) (by unfold Sm; decide) (by decide)) (sc.sm (by decide)), b_mul (s6.sm (by decide)) (s9.sm (by decide)), hW, b_fdiv (i := W % 2305843009213693907) (j := 179) (by decide) i179, b_mod hu0, wd]
theorem m_of {k : Nat} {h : Hs} {r c : Nat} (P : Pot h r c) (hc : c < 2 ^ 300) (vs : List Val) (h0 : 0 < vs.length) (hu : vs.length < 2 ^ 2000) :
    ∃ (d : Nat) (v : Val) (h' : Hs), callD U (k + 2) 14 [.ref r, .lst vs] h = .ok v h' ∧ vs[d]? = some v ∧ Pot h' r (c + 1) ∧ h'.length = h.length := by
  obtain ⟨d, h', e, hd, P', hl⟩ := m_take (k := k) P hc vs.length h0 hu
  refine ⟨d, vs[d], h', ?_, List.getElem?_eq_getElem hd, P', hl⟩
  rw [call_eq (d := d14) rfl rfl]
  simp [d14, start_eq, e, at_n hd, List.getElem?_eq_getElem hd]
end LT
set_option Elab.async false
set_option linter.all false
set_option maxRecDepth 100000
set_option maxHeartbeats 4000000
namespace LT
open PySem Pyi
/-! ### numbers -/
/-- a number as a pair in least terms -/
def rv (q : Rat) : Val := .tup [.int q.num, .int q.den]
theorem lap_big {b : Nat} (h : b < 2 ^ 1300) : b < laps := Nat.lt_of_lt_of_le h (by decide +kernel)
theorem den9 {g : Nat} (h : g < 2 ^ 1300) : (g : Int) < 2 ^ 9000 := by
  have h2 : g < 2 ^ 9000 := Nat.lt_of_lt_of_le h (Nat.pow_le_pow_right (by decide) (by decide))
  have e : ((2 ^ 9000 : Nat) : Int) = 2 ^ 9000 := by rw [Int.natCast_pow]; rfl
  omega
theorem rv_mk (o u : Nat) (hu : 0 < u) : rv (mkRat o u) = .tup [.int ((o : Int) / ((Nat.gcd o u : Nat) : Int)), .int ((u : Int) / ((Nat.gcd o u : Nat) : Int))] := by
  unfold rv
  rw [Rat.num_mkRat, Rat.den_mkRat, if_neg (Nat.ne_of_gt hu), if_neg (Nat.ne_of_gt hu), Int.natAbs_natCast, Nat.gcd_comm u o, Int.natCast_ediv]
theorem m_lnumber {k : Nat} {h : Hs} (o : Int) (u : Nat) (ho : 0 ≤ o) (hu : 0 < u) (hb : u < 2 ^ 1300) : callD U (k + 1) 16 [.int o, .int u] h = .ok (rv (mkRat o u)) h := by
  obtain ⟨o, rfl⟩ := Int.eq_ofNat_of_zero_le ho
  rw [call_eq (d := d16) rfl rfl, rv_mk o u hu]
  have gp : 0 < Nat.gcd o u := Nat.gcd_pos_of_pos_right _ hu
  have g0 : (0 : Int) < ((Nat.gcd o u : Nat) : Int) := by omega
  have g9 := den9 (Nat.lt_of_le_of_lt (Nat.le_of_dvd hu (Nat.gcd_dvd_right o u)) hb)
  have L := gcd_loop (h := h) (C := condW (callD U k) (.cmp .gt (.var 3) (.lit (.int 0)))) (G := turnW (callD U k) [.par [2, 3] [.var 3, .bin .mod (.var 2) (.var 3)]]) (e := fun a b => [some (.v (.int o)), some (.v (.int u)), some (.v (.int a)), some (.v (.int b))])
    (fun a b => by simp [condW_eq]) (fun a b hp => by
      have hp' : (0 : Int) < (b : Int) := by omega
      simp [turnW_eq, b_mod hp']) laps o u (lap_big hb)
  simp [d16, start_eq, L, b_fdiv g0 g9]
def rsum : List Rat → Rat
  | [] => 0
  | q :: qs => q + rsum qs
/-- a number that is not below nought, its parts below 2 ^ n -/
structure Q (n : Nat) (q : Rat) : Prop where
  nn : 0 ≤ q.num
  nu : q.num < 2 ^ n
  de : q.den < 2 ^ n
theorem pw (n : Nat) : ((2 ^ n : Nat) : Int) = 2 ^ n := by rw [Int.natCast_pow]; rfl
theorem Q.mono {m n : Nat} {q : Rat} (h : Q m q) (l : m ≤ n) : Q n q := by
  have e := Nat.pow_le_pow_right (n := 2) (by decide) l
  have e2 : ((2 ^ m : Nat) : Int) ≤ ((2 ^ n : Nat) : Int) := by omega
  rw [pw, pw] at e2
  exact ⟨h.nn, Int.lt_of_lt_of_le h.nu e2, Nat.lt_of_lt_of_le h.de e⟩
theorem Q.sn {n : Nat} {q : Rat} (h : Q n q) : Sm n q.num := Sm.nat h.nn h.nu
theorem Q.sd {n : Nat} {q : Rat} (h : Q n q) : Sm n (q.den : Int) := by
  unfold Sm
  rw [Int.natAbs_natCast]
  exact h.de
theorem add_mk (p q : Rat) : mkRat (p.num * q.den + q.num * p.den) (p.den * q.den) = p + q := by
  rw [← Rat.mkRat_add_mkRat _ _ p.den_nz q.den_nz, Rat.mkRat_self, Rat.mkRat_self]
theorem mk_Q {n : Nat} {o : Int} {u : Nat} (h0 : 0 ≤ o) (h1 : o < 2 ^ n) (hu : 0 < u) (h2 : u < 2 ^ n) : Q n (mkRat o u) := by
  obtain ⟨o, rfl⟩ := Int.eq_ofNat_of_zero_le h0
  have e : (mkRat o u).num = ((o / Nat.gcd u o : Nat) : Int) := by rw [Rat.num_mkRat, if_neg (Nat.ne_of_gt hu), Int.natAbs_natCast, Int.natCast_ediv]
  have e2 : (mkRat o u).den = u / Nat.gcd u o := by rw [Rat.den_mkRat, if_neg (Nat.ne_of_gt hu), Int.natAbs_natCast]
  have l1 := Nat.div_le_self o (Nat.gcd u o)
  refine ⟨by rw [e]; exact Int.natCast_nonneg _, by rw [e]; exact Int.lt_of_le_of_lt (Int.ofNat_le.mpr l1) h1, by rw [e2]; exact Nat.lt_of_le_of_lt (Nat.div_le_self _ _) h2⟩
theorem Q.add {m n : Nat} {p q : Rat} (hp : Q m p) (hq : Q n q) : Q (m + n + 1) (p + q) := by
  rw [← add_mk]
  have s1 := hp.sn.mul hq.sd
  have s2 := hq.sn.mul hp.sd
  have s3 := s1.add (by rw [Nat.add_comm m n]; exact s2)
  have n1 := Int.mul_nonneg hp.nn (Int.natCast_nonneg q.den)
  have n2 := Int.mul_nonneg hq.nn (Int.natCast_nonneg p.den)
  have s4 := hp.sd.mul hq.sd
  refine mk_Q (by omega) ?_ (Nat.mul_pos p.den_pos q.den_pos) ?_
  · unfold Sm at s3
    rw [← pw]
    omega
  · unfold Sm at s4
    rw [← Int.natCast_mul, Int.natAbs_natCast] at s4
    exact Nat.lt_of_lt_of_le s4 (Nat.pow_le_pow_right (by decide) (by omega))
/-- the loop of the sum -/
theorem sum_loop {cf : Nat → List Val → Hs → Out Val} {f : Nat} {h : Hs} {a : Option Slot} {B : Nat} (hcf : ∀ (o : Int) (u : Nat), 0 ≤ o → 0 < u → u < 2 ^ 1300 → cf f [.int o, .int u] h = .ok (rv (mkRat o u)) h) (hB : B ≤ 1300) :
    ∀ (qs : List Rat) (q0 : Rat) (e : Nat) (s3 s4 : Option Slot), (∀ q ∈ qs, Q B q) → Q e q0 → e + qs.length * (B + 1) ≤ 1300 →
    ∃ s3' s4', loopF (turnF cf (.t [.v 3, .v 4]) [.tset (.t [.v 1, .v 2]) (.call f [.bin .add (.bin .mul (.var 1) (.var 4)) (.bin .mul (.var 3) (.var 2)), .bin .mul (.var 2) (.var 4)] [])]) (qs.map rv)
      [a, some (.v (.int q0.num)), some (.v (.int q0.den)), s3, s4] h = .ok .nxt [a, some (.v (.int (q0 + rsum qs).num)), some (.v (.int (q0 + rsum qs).den)), s3', s4'] h
  | [], q0, e, s3, s4, _, _, _ => ⟨s3, s4, by rw [rsum, Rat.add_zero]; rfl⟩
  | q :: qs, q0, e, s3, s4, hq, h0, hl => by
    have q1 := hq q List.mem_cons_self
    rw [List.length_cons, Nat.add_mul, Nat.one_mul] at hl
    have ih := sum_loop (a := a) hcf hB qs (q0 + q) (e + B + 1) (some (.v (.int q.num))) (some (.v (.int q.den))) (fun y hy => hq y (List.mem_cons_of_mem _ hy)) (h0.add q1) (by omega)
    obtain ⟨t3, t4, ih⟩ := ih
    refine ⟨t3, t4, ?_⟩
    have n1 := Int.mul_nonneg h0.nn (Int.natCast_nonneg q.den)
    have n2 := Int.mul_nonneg q1.nn (Int.natCast_nonneg q0.den)
    have s4 := h0.sd.mul q1.sd
    have du : q0.den * q.den < 2 ^ 1300 := by
      unfold Sm at s4
      rw [← Int.natCast_mul, Int.natAbs_natCast] at s4
      exact Nat.lt_of_lt_of_le s4 (Nat.pow_le_pow_right (by decide) (by omega))
    have c1 := hcf (q0.num * q.den + q.num * q0.den) (q0.den * q.den) (by omega) (Nat.mul_pos q0.den_pos q.den_pos) du
    rw [add_mk, Int.natCast_mul] at c1
    rw [List.map_cons, lf_cons, rsum, ← Rat.add_assoc, ← ih]
    simp [turnF_eq, rv, b_mul (h0.sn.sm (by omega)) (q1.sd.sm (by omega)), b_mul (q1.sn.sm (by omega)) (h0.sd.sm (by omega)), b_mul (h0.sd.sm (by omega)) (q1.sd.sm (by omega)), c1]
theorem zero_Q : Q 1 0 := ⟨by decide, by decide, by decide⟩
end LT
set_option Elab.async false
set_option linter.all false
set_option maxRecDepth 100000
set_option maxHeartbeats 4000000
namespace LT
open PySem Pyi
/-! ### lots -/
abbrev Thing := Rat × Nat
def itV (p : Thing) : Val := .tup [rv p.1, .int p.2]
def lotV (l : List Thing) : Val := .tup (l.map itV)
structure GI (B : Nat) (p : Thing) : Prop where
  q : Q B p.1
  pos : 0 < p.1.num
  m0 : 0 < p.2
  mb : p.2 < 2 ^ B
/-- so many of a size -/
def tm (p : Thing) : Rat := mkRat (p.1.num * p.2) p.1.den
theorem tm_eq (p : Thing) : tm p = p.1 * mkRat p.2 1 := by
  unfold tm
  have e := Rat.mkRat_mul_mkRat p.1.num (p.2 : Int) p.1.den 1
  rw [Rat.mkRat_self, Nat.mul_one] at e
  exact e.symm
theorem GI.sm_m {B : Nat} {p : Thing} (g : GI B p) : Sm B (p.2 : Int) := by
  unfold Sm
  rw [Int.natAbs_natCast]
  exact g.mb
theorem tm_Q {B : Nat} {p : Thing} (g : GI B p) : Q (B + B) (tm p) := by
  have s := g.q.sn.mul g.sm_m
  have n := Int.mul_nonneg g.q.nn (Int.natCast_nonneg p.2)
  refine mk_Q n ?_ p.1.den_pos (Nat.lt_of_lt_of_le g.q.de (Nat.pow_le_pow_right (by decide) (by omega)))
  unfold Sm at s
  rw [← pw]
  omega
theorem mapF_map {α : Type} {g : Val → Hs → Out (Option Val)} {i f : α → Val} {h : Hs} : ∀ (xs : List α), (∀ x ∈ xs, g (i x) h = .ok (some (f x)) h) → mapF g (xs.map i) h = .ok (xs.map f) h
  | [], _ => rfl
  | x :: xs, q => by
    rw [List.map_cons, mf_cons, q x List.mem_cons_self]
    show (mapF g (xs.map i) h).bind _ = _
    rw [mapF_map xs fun y hy => q y (List.mem_cons_of_mem _ hy)]
    rfl
theorem m_isint {k : Nat} {h : Hs} {i lo : Int} : callD U (k + 1) 0 [.int i, .int lo, .non] h = .ok (.bl (decide (lo ≤ i))) h := by
  rw [call_eq (d := d0) rfl rfl]
  by_cases hl : lo ≤ i <;> simp [d0, start_eq, hl]
theorem m_istup0 {k : Nat} {h : Hs} {vs : List Val} : callD U (k + 1) 1 [.tup vs, .int 0, .non] h = .ok (.bl true) h := by
  rw [call_eq (d := d1) rfl rfl]
  simp [d1, start_eq]
theorem m_istup2 {k : Nat} {h : Hs} {a b : Val} : callD U (k + 1) 1 [.tup [a, b], .int 2, .int 2] h = .ok (.bl true) h := by
  rw [call_eq (d := d1) rfl rfl]
  simp [d1, start_eq]
theorem m_isnum {k : Nat} {h : Hs} {q : Rat} {n : Nat} (hq : Q n q) (hn : n ≤ 1300) : callD U (k + 2) 4 [rv q] h = .ok (.bl true) h := by
  rw [call_eq (d := d4) rfl rfl]
  have dn : q.den < laps := lap_big (Nat.lt_of_lt_of_le hq.de (Nat.pow_le_pow_right (by decide) hn))
  have ha : ((q.num.natAbs : Nat) : Int) = q.num := Int.natAbs_of_nonneg hq.nn
  have cm := m_common (k := k) (h := h) q.num.natAbs q.den dn
  have g1 : Nat.gcd q.num.natAbs q.den = 1 := q.reduced
  rw [ha, g1] at cm
  have n0 := hq.nn
  have d1 : (1 : Int) ≤ (q.den : Int) := by have := q.den_pos; omega
  simp [d4, start_eq, rv, m_istup2, m_isint, n0, d1, cm]
theorem m_ispart {k : Nat} {h : Hs} {p : Thing} {B : Nat} (g : GI B p) (hB : B ≤ 1300) : callD U (k + 3) 8 [itV p, .non] h = .ok (.bl true) h := by
  rw [call_eq (d := d8) rfl rfl]
  have m1 : (1 : Int) ≤ (p.2 : Int) := by have := g.m0; omega
  have nm := m_isnum (k := k) (h := h) g.q hB
  have np := g.pos
  have e : rv p.1 = .tup [.int p.1.num, .int p.1.den] := rfl
  simp [d8, start_eq, itV, m_istup2, m_isint, m1, nm, e ▸ nm, np, e]
theorem key_rv (a b : Rat) : keyEq (rv a) (rv b) = decide (a = b) := by
  show ((a.num == b.num) && (((a.den : Int) == (b.den : Int)) && true)) = _
  by_cases h : a = b
  · subst h
    simp
  · have : ¬ (a.num = b.num ∧ a.den = b.den) := fun z => h (Rat.ext z.1 z.2)
    by_cases h1 : a.num = b.num
    · have h2 : ¬ a.den = b.den := fun z => this ⟨h1, z⟩
      have h3 : ¬ (a.den : Int) = (b.den : Int) := fun z => h2 (Int.ofNat.inj z)
      simp [h, h3]
    · simp [h, h1]
theorem firstKs_nd : ∀ (qs : List Rat) (acc : List Rat), (acc ++ qs).Nodup → (firstKs (acc.map rv) (qs.map rv)).length = acc.length + qs.length
  | [], acc, _ => by simp [firstKs]
  | q :: qs, acc, h => by
    have hn : (acc.map rv).any (fun x => keyEq x (rv q)) = false := by
      rw [List.any_map, List.any_eq_false]
      intro x hx
      show ¬ keyEq (rv x) (rv q) = true
      rw [key_rv]
      have := (List.nodup_append.mp h).2.2 x hx q List.mem_cons_self
      simpa using this
    show (firstKs (if (acc.map rv).any (fun x => keyEq x (rv q)) then acc.map rv else acc.map rv ++ [rv q]) (qs.map rv)).length = _
    rw [hn]
    have ih := firstKs_nd qs (acc ++ [q]) (by rw [List.append_assoc]; exact h)
    rw [List.map_append] at ih
    have ih' : (firstKs (acc.map rv ++ [rv q]) (qs.map rv)).length = _ := ih
    rw [if_neg Bool.false_ne_true, ih', List.length_append, List.length_cons, List.length_cons, List.length_nil]
    omega
theorem bools_rep (l : List Thing) : boolsOf (l.map fun _ => Val.bl true) = some (l.map fun _ => true) := by
  induction l with
  | nil => rfl
  | cons a l ih =>
    show (boolsOf (l.map fun _ => Val.bl true)).map (true :: ·) = _
    rw [ih]
    rfl
theorem m_islot {k : Nat} {h : Hs} {l : List Thing} {B : Nat} (g : ∀ p ∈ l, GI B p) (hB : B ≤ 1300) (hl : l.length ≤ 1300) (nd : (l.map (·.1)).Nodup) : callD U (k + 4) 9 [lotV l, .non] h = .ok (.bl true) h := by
  rw [call_eq (d := d9) rfl rfl]
  have ml : l.length ≤ most := Nat.le_trans hl (by decide)
  have a1 := mapF_map (h := h) (i := itV) (f := fun _ => Val.bl true) (g := turnC (callD U (k + 3)) [some (.v (lotV l)), some (.v .non), none, none, none] (.v 2) [] (.call 8 [.var 2, .var 1] [])) l (fun p hp => by
    simp [turnC_eq, m_ispart (g p hp) hB])
  have a2 := mapF_map (h := h) (i := itV) (f := fun p => rv p.1) (g := turnD (callD U (k + 3)) [some (.v (lotV l)), some (.v .non), none, none, none] (.t [.v 3, .v 4]) (.var 3)) l (fun p hp => by
    have kt : keyT (rv p.1) = true := rfl
    simp [turnD_eq, itV, kt])
  have fl := firstKs_nd (l.map (fun p : Thing => p.1)) [] nd
  rw [List.map_nil, List.map_map, List.length_map, List.length_nil, Nat.zero_add] at fl
  have fl' : (firstKs [] (l.map fun p => rv p.1)).length = l.length := fl
  have al : allV (.lst (l.map fun _ => Val.bl true)) = some (.bl true) := by
    show (boolsOf (l.map fun _ => Val.bl true)).map _ = _
    rw [bools_rep]
    simp
  have e : lotV l = .tup (l.map itV) := rfl
  have e1 := e ▸ a1
  have e2 := e ▸ a2
  simp [d9, start_eq, e, m_istup0, e1, e2, al, ml, fl']
theorem m_check {k : Nat} {h : Hs} {l : List Thing} {B : Nat} (g : ∀ p ∈ l, GI B p) (hB : B ≤ 1300) (hl : l.length ≤ 1300) (nd : (l.map (·.1)).Nodup) : callD U (k + 5) 10 [lotV l, .non] h = .ok .non h := by
  rw [call_eq (d := d10) rfl rfl]
  simp [d10, start_eq, m_islot g hB hl nd]
/-- what a lot fills -/
def due (l : List Thing) : Rat := rsum (l.map tm)
end LT
set_option Elab.async false
set_option linter.all false
set_option maxRecDepth 100000
set_option maxHeartbeats 4000000
namespace LT
open PySem Pyi
theorem due_loop {cf : Nat → List Val → Hs → Out Val} {h : Hs} {a : Option Slot} {B : Nat} : ∀ (l : List Thing) (O : Int) (W e : Nat) (s3 s4 : Option Slot), (∀ p ∈ l, GI B p) → 0 ≤ O → Sm e O → 0 < W → Sm e (W : Int) → e + l.length * (B + B + 1) ≤ 1300 →
    ∃ (O' : Int) (W' : Nat) (s3' s4' : Option Slot), loopF (turnF cf (.t [.v 3, .v 4]) [.set 2 (.bin .add (.bin .mul (.var 2) (.idx (.var 3) (.lit (.int 1)))) (.bin .mul (.bin .mul (.idx (.var 3) (.lit (.int 0))) (.var 4)) (.var 1))), .set 1 (.bin .mul (.var 1) (.idx (.var 3) (.lit (.int 1))))]) (l.map itV)
      [a, some (.v (.int W)), some (.v (.int O)), s3, s4] h = .ok .nxt [a, some (.v (.int W')), some (.v (.int O')), s3', s4'] h ∧ 0 ≤ O' ∧ 0 < W' ∧ Sm 1300 (W' : Int) ∧ mkRat O' W' = mkRat O W + rsum (l.map tm)
  | [], O, W, e, s3, s4, _, h0, _, hw, sw, hl => ⟨O, W, s3, s4, rfl, h0, hw, sw.mono (by simpa using hl), by rw [List.map_nil, rsum, Rat.add_zero]⟩
  | p :: l, O, W, e, s3, s4, hg, h0, so, hw, sw, hl => by
    have g := hg p List.mem_cons_self
    rw [List.length_cons, Nat.add_mul, Nat.one_mul] at hl
    have x1 := so.mul g.q.sd
    have x2 := g.q.sn.mul g.sm_m
    have x3 := x2.mul sw
    have x4 := sw.mul g.q.sd
    have n1 := Int.mul_nonneg h0 (Int.natCast_nonneg p.1.den)
    have n2 := Int.mul_nonneg (Int.mul_nonneg g.q.nn (Int.natCast_nonneg p.2)) (Int.natCast_nonneg W)
    have so' : Sm (e + (B + B + 1)) (O * p.1.den + p.1.num * p.2 * W) := (Sm.add (n := e + (B + B)) (x1.mono (by omega)) (x3.mono (by omega))).mono (by omega)
    have sw' : Sm (e + (B + B + 1)) ((W * p.1.den : Nat) : Int) := by
      rw [Int.natCast_mul]
      exact x4.mono (by omega)
    obtain ⟨O', W', t3, t4, ih, i1, i2, i3, i4⟩ := due_loop (cf := cf) (h := h) (a := a) l (O * p.1.den + p.1.num * p.2 * W) (W * p.1.den) (e + (B + B + 1)) (some (.v (rv p.1))) (some (.v (.int p.2))) (fun y hy => hg y (List.mem_cons_of_mem _ hy)) (by omega) so' (Nat.mul_pos hw p.1.den_pos) sw' (by omega)
    refine ⟨O', W', t3, t4, ?_, i1, i2, i3, ?_⟩
    · rw [Int.natCast_mul] at ih
      rw [List.map_cons, lf_cons, ← ih]
      have e : rv p.1 = .tup [.int p.1.num, .int p.1.den] := rfl
      simp [turnF_eq, itV, e, b_mul (so.sm (by omega)) (g.q.sd.sm (by omega)), b_mul (g.q.sn.sm (by omega)) (g.sm_m.sm (by omega)), b_mul (x2.sm (by omega)) (sw.sm (by omega)), b_mul (sw.sm (by omega)) (g.q.sd.sm (by omega))]
    · rw [i4, List.map_cons, rsum, ← Rat.add_assoc]
      congr 1
      unfold tm
      rw [Rat.mkRat_add_mkRat _ _ (Nat.ne_of_gt hw) p.1.den_nz]
theorem Pot.mono {h : Hs} {r c c' : Nat} (P : Pot h r c) (l : c ≤ c') : Pot h r c' := by
  obtain ⟨own, small, cnt, e, p1, p2, p4, p5⟩ := P
  exact ⟨own, small, cnt, e, p1, p2, p4, by omega⟩
theorem rv_one (n : Nat) : rv (mkRat n 1) = .tup [.int n, .int 1] := by
  rw [rv_mk n 1 (by decide), Nat.gcd_one_right]
  simp
theorem mk_pos {o : Int} {u : Nat} (ho : 0 < o) (hu : 0 < u) : 0 < (mkRat o u).num := by
  obtain ⟨o, rfl⟩ := Int.eq_ofNat_of_zero_le (Int.le_of_lt ho)
  rw [Rat.num_mkRat, if_neg (Nat.ne_of_gt hu), Int.natAbs_natCast, ← Int.natCast_ediv]
  have ho' : 0 < o := by omega
  have : 0 < o / Nat.gcd u o := Nat.div_pos (Nat.le_of_dvd ho' (Nat.gcd_dvd_right u o)) (Nat.gcd_pos_of_pos_left _ hu)
  omega
theorem lt_pw {a m n : Nat} (h : a < 2 ^ m) (l : m ≤ n) : a < 2 ^ n := Nat.lt_of_lt_of_le h (Nat.pow_le_pow_right (by decide) l)
theorem m_size {k : Nat} {h : Hs} {r c : Nat} (P : Pot h r c) (hc : c + 10 < 2 ^ 300) (box : Nat) (hb : 0 < box) (hb2 : box < 2 ^ 10) :
    ∃ (q : Rat) (h' : Hs), callD U (k + 3) 19 [.ref r, .int box] h = .ok (rv q) h' ∧ Q 32 q ∧ 0 < q.num ∧ Pot h' r (c + 5) ∧ h'.length = h.length := by
  obtain ⟨way, h1, e1, w1, P1, l1⟩ := m_take (k := k + 1) P (by omega) 5 (by decide) (by decide +kernel)
  obtain ⟨at', h2, e2, w2, P2, l2⟩ := m_take (k := k + 1) P1 (by omega) box hb (Nat.lt_of_lt_of_le hb2 (Nat.pow_le_pow_right (by decide) (by decide)))
  obtain ⟨d, v, h3, e3, w3, P3, l3⟩ := m_of (k := k) P2 (by omega) [.int 3, .int 9, .int 1000000] (by simp) (by decide +kernel)
  obtain ⟨x, ex, x0, x1⟩ : ∃ x : Nat, v = .int x ∧ 0 < x ∧ x ≤ 1000000 := by
    match d, w3 with
    | 0, w3 => cases w3; exact ⟨3, rfl, by decide, by decide⟩
    | 1, w3 => cases w3; exact ⟨9, rfl, by decide, by decide⟩
    | 2, w3 => cases w3; exact ⟨1000000, rfl, by decide, by decide⟩
    | n + 3, w3 => cases w3
  subst ex
  obtain ⟨y, h4, e4, w4, P4, l4⟩ := m_take (k := k + 1) P3 (by omega) x x0 (Nat.lt_of_le_of_lt x1 (by decide +kernel))
  have pw6 : binop .pow (.int 10) (.int 6) = some (.int 1000000) := b_pow (by decide) (by decide) (by decide +kernel)
  have c5 : (5 : Int) = ((5 : Nat) : Int) := rfl
  have sat : Sm 10 (at' : Int) := by
    unfold Sm
    rw [Int.natAbs_natCast]
    omega
  have su : Sm 21 ((2 + y : Nat) : Int) := by
    unfold Sm
    rw [Int.natAbs_natCast]
    omega
  have mu : binop .mul (.int at') (.int (2 + (y : Int))) = some (.int ((at' : Int) * (2 + (y : Int)))) := by
    have := b_mul (sat.sm (by decide)) (su.sm (by decide))
    rw [Int.natCast_add] at this
    exact this
  have hm : at' * (2 + y) ≤ 1024 * 1000001 := Nat.mul_le_mul (by omega) (by omega)
  have b32 : (2 : Int) ^ 32 = 4294967296 := by decide
  have b32n : (2 : Nat) ^ 32 = 4294967296 := by decide
  have y32 : ∀ {n : Nat}, 32 ≤ n → 2 + y < 2 ^ n := fun {n} l => lt_pw (m := 32) (by omega) l
  have um : (2 + (y : Int)) = ((2 + y : Nat) : Int) := by rw [Int.natCast_add]; rfl
  have mm : ((at' : Int) * (2 + (y : Int))) = ((at' * (2 + y) : Nat) : Int) := by rw [Int.natCast_mul, ← um]
  rw [call_eq (d := d19) rfl rfl]
  rcases Nat.lt_or_ge way 2 with hw | hw
  · have hw' : (way : Int) < 2 := by omega
    refine ⟨mkRat ((at' + 1 : Nat) : Int) 1, h4, ?_, mk_Q (by omega) (by omega) (by decide) (by decide), mk_pos (by omega) (by decide), P4.mono (by omega), by omega⟩
    rw [rv_one, Int.natCast_add]
    simp [d19, start_eq, e1, e2, e3, e4, pw6, c5 ▸ e1, hw']
  · rcases Nat.lt_or_ge way 4 with h5 | h5
    · have hw2 : way = 2 ∨ way = 3 := by omega
      have dt : ∃ t : Nat, atI [Val.int 1, Val.int (2 + (y : Int) - 1)] ((way : Int) - 2) = some (.int t) ∧ 0 < t ∧ t ≤ 1000001 := by
        rcases hw2 with e | e
        · subst e
          exact ⟨1, rfl, by decide, by decide⟩
        · subst e
          refine ⟨y + 1, ?_, by omega, by omega⟩
          have e5 : ((3 : Nat) : Int) - 2 = 1 := rfl
          have e6 : 2 + (y : Int) - 1 = ((y + 1 : Nat) : Int) := by omega
          rw [e5, at_1, e6]
      obtain ⟨t, et, t0, t1⟩ := dt
      have ln : callD U (k + 2) 16 [.int ((at' : Int) * (2 + (y : Int)) + t), .int (2 + (y : Int))] h4 = .ok (rv (mkRat ((at' : Int) * (2 + (y : Int)) + t) (2 + y))) h4 := by
        have q := m_lnumber (k := k + 1) (h := h4) ((at' : Int) * (2 + (y : Int)) + t) (2 + y) (by rw [mm]; omega) (by omega) (y32 (by decide))
        rw [← um] at q
        exact q
      have hw' : ¬ (way : Int) < 2 := by omega
      have hw4 : ¬ (way : Int) = 4 := by omega
      refine ⟨mkRat ((at' : Int) * (2 + (y : Int)) + t) (2 + y), h4, ?_, mk_Q (by rw [mm]; omega) (by rw [mm]; omega) (by omega) (by omega), mk_pos (by rw [mm]; omega) (by omega), P4.mono (by omega), by omega⟩
      simp [d19, start_eq, e1, e2, e3, e4, pw6, c5 ▸ e1, hw', hw4, mu, et]
      simp [ln]
    · have e4w : way = 4 := by omega
      subst e4w
      obtain ⟨z, h6, e6, w6, P6, l6⟩ := m_take (k := k + 1) P4 (by omega) (2 + y) (by omega) (y32 (by decide))
      rw [← um] at e6
      have ln : callD U (k + 2) 16 [.int ((at' : Int) * (2 + (y : Int)) + 1 + z), .int (2 + (y : Int))] h6 = .ok (rv (mkRat ((at' : Int) * (2 + (y : Int)) + 1 + z) (2 + y))) h6 := by
        have q := m_lnumber (k := k + 1) (h := h6) ((at' : Int) * (2 + (y : Int)) + 1 + z) (2 + y) (by rw [mm]; omega) (by omega) (y32 (by decide))
        rw [← um] at q
        exact q
      refine ⟨mkRat ((at' : Int) * (2 + (y : Int)) + 1 + z) (2 + y), h6, ?_, mk_Q (by rw [mm]; omega) (by rw [mm]; omega) (by omega) (by omega), mk_pos (by rw [mm]; omega) (by omega), P6, by omega⟩
      simp [d19, start_eq, e1, e2, e3, e4, pw6, c5 ▸ e1, mu, e6, ln]
end LT
set_option Elab.async false
set_option linter.all false
set_option maxRecDepth 100000
set_option maxHeartbeats 2000000
namespace LT
open PySem Pyi
/-! ### what every law of this hand does: cells, pots, turns -/
theorem m_cells {k : Nat} {h : Hs} (ns : List Int) (L : Nat) (hl : ns.length ≤ 63) (h1 : 1 ≤ L) (hL : L ≤ 1000) : ∃ n : Nat, callD U (k + 1) 15 [.scr ns, .int L] h = .ok (.lst (rngV 0 n)) h ∧ n ≤ L := by
  have f1 : bicall .min_ [.int L, .int ns.length] = some (.int (min L ns.length : Nat)) := by
    rw [bi_min2]
    congr 2
    split <;> omega
  have f2 : bicall .max_ [.int 1, .int (min L ns.length : Nat)] = some (.int (max 1 (min L ns.length) : Nat)) := by
    rw [bi_max2]
    congr 2
    split <;> omega
  have hn : max 1 (min L ns.length) ≤ L := by omega
  generalize max 1 (min L ns.length) = n at *
  generalize min L ns.length = m at *
  refine ⟨n, ?_, hn⟩
  have ro : rgOk (n : Int) = true := by
    unfold rgOk
    have t1 : (1001 : Int) < 2 ^ 62 := by decide
    have t2 : (0 : Int) < 2 ^ 62 := by decide
    rw [Bool.and_eq_true]
    exact ⟨decide_eq_true (by omega), decide_eq_true (by omega)⟩
  have ml : n ≤ most := Nat.le_trans (Nat.le_trans hn hL) (by decide)
  rw [call_eq (d := d15) rfl rfl]
  simp [d15, start_eq, -bi_min2, -bi_max2, f1, f2, ro, rngV_len, ml]
def T60 : Int := 1000000000000000000000000000000000000000000000000000000000000
def T300 : Int := 1000000000000000000000000000000000000000000000000000000000000000000000000000000000000000000000000000000000000000000000000000000000000000000000000000000000000000000000000000000000000000000000000000000000000000000000000000000000000000000000000000000000000000000000000000000000000000000000000000000000000
theorem m_pot {k : Nat} {h : Hs} (ns : List Int) (n : Nat) (hn : n ≤ 1000) : ∃ o, callD U (k + 1) 12 [.scr ns, .int n] h = .ok (.ref h.length) (h ++ [o]) ∧ Pot (h ++ [o]) h.length 0 := by
  have sn : Sm 10 (n : Int) := by
    unfold Sm
    rw [Int.natAbs_natCast]
    omega
  have p60 : binop .pow (.int 10) (.int 60) = some (.int T60) := (b_pow (by decide) (by decide) (by decide +kernel)).trans (congrArg (fun z => some (Val.int z)) (show (10 : Int) ^ Int.toNat 60 = T60 by decide +kernel))
  have p300 : binop .pow (.int T60) (.int 5) = some (.int T300) := (b_pow (by decide) (by decide) (by decide +kernel)).trans (congrArg (fun z => some (Val.int z)) (show T60 ^ Int.toNat 5 = T300 by decide +kernel))
  have p18 : binop .pow (.int 10) (.int 18) = some (.int 1000000000000000000) := (b_pow (by decide) (by decide) (by decide +kernel)).trans (congrArg (fun z => some (Val.int z)) (show (10 : Int) ^ Int.toNat 18 = 1000000000000000000 by decide +kernel))
  have t0 : (0 : Int) < T300 := by decide +kernel
  have st : Sm 1000 T300 := by unfold Sm; decide +kernel
  have main : ∀ cell : Int, (evE (callD U k) (.ite (.cmp .lt (.var 1) (.bi .len [.var 0])) (.idx (.var 0) (.var 1)) (.bin .add (.bin .mul (.lit (.int 293)) (.var 1)) (.lit (.int 139)))) [some (.v (.scr ns)), some (.v (.int n)), none, none, none] h) = .ok (.int cell) h →
      ∃ o, callD U (k + 1) 12 [.scr ns, .int n] h = .ok (.ref h.length) (h ++ [o]) ∧ Pot (h ++ [o]) h.length 0 := by
    intro cell ec
    generalize hA : (if cell < 0 then -cell else cell) = A
    have a0 : 0 ≤ A := by
      rw [← hA]
      split <;> omega
    have s1 : Sm 1000 (A % T300) := st.emod t0
    have o1 : sm (if 1000000000000000000 ≤ A then (1 : Int) else 0) = true := by
      split
      · decide +kernel
      · decide +kernel
    have m1 := b_mul (s1.sm (by decide)) o1
    generalize hS : cell % 2305843009213693951 = sl at *
    have sl0 : 0 ≤ sl := by rw [← hS]; exact Int.emod_nonneg _ (by decide)
    have sl1 : sl < 2305843009213693951 := by rw [← hS]; exact Int.emod_lt_of_pos _ (by decide)
    have ssl : Sm 61 sl := Sm.nat sl0 (by have : (2 : Int) ^ 61 = 2305843009213693952 := by decide
                                          omega)
    have m2 := b_mul (ssl.sm (by decide)) (show sm 74561 = true by decide +kernel)
    have m3 := b_mul (show sm 7841 = true by decide +kernel) (sn.sm (by decide))
    have m4 := b_mul ((Sm.mul (m := 13) (i := 7841) (by unfold Sm; decide) sn).sm (by decide)) (sn.sm (by decide))
    have r0 : (0 : Int) ≤ (sl * 74561 + 7841 * n * n + 211) % 2305843009213693921 := Int.emod_nonneg _ (by decide)
    have r1 : (sl * 74561 + 7841 * n * n + 211) % 2305843009213693921 < 2305843009213693921 := Int.emod_lt_of_pos _ (by decide)
    have b61 : (2 : Int) ^ 61 = 2305843009213693952 := by decide
    refine ⟨.lst [.int (A % T300 * if 1000000000000000000 ≤ A then (1 : Int) else 0), .int ((sl * 74561 + 7841 * n * n + 211) % 2305843009213693921), .int 0], ?_, _, _, _, by rw [List.getElem?_append_right (Nat.le_refl _), Nat.sub_self]; rfl, ?_, ⟨r0, by rw [b61]; omega⟩, by decide, by decide⟩
    · rw [call_eq (d := d12) rfl rfl]
      simp only [d12, start_eq, List.map_cons, List.map_nil, List.length_cons, List.length_nil, ss_cons, s_set_]
      have ec' : evE (callD U k) (.ite (.cmp .lt (.var 1) (.bi .len [.var 0])) (.idx (.var 0) (.var 1)) (.bin .add (.bin .mul (.lit (.int 293)) (.var 1)) (.lit (.int 139)))) ([some (.v (.scr ns)), some (.v (.int n))] ++ List.replicate (5 - (0 + 1 + 1)) none) h = .ok (.int cell) h := ec
      rw [ec']
      simp [hA, p60, p300, p18, b_mod t0, m1, b_mod, hS, m2, m3, m4]
    · exact Int.mul_nonneg (Int.emod_nonneg _ (Int.ne_of_gt t0)) (by split <;> decide)
  by_cases hl : n < ns.length
  · refine main ns[n] ?_
    have hl' : (n : Int) < (ns.length : Int) := by omega
    simp [hl', at_n hl, List.getElem?_eq_getElem hl]
  · refine main (293 * n + 139) ?_
    have hl' : ¬ (n : Int) < (ns.length : Int) := by omega
    have m0 := b_mul (show sm 293 = true by decide +kernel) (sn.sm (by decide))
    simp [hl', m0]
/-- the turns of a law's own comprehension -/
theorem law_map {cf : Nat → List Val → Hs → Out Val} {R L : Nat} (ns : List Int) (hp : ∀ (n : Nat) (h : Hs), n < L → ∃ o, cf 12 [.scr ns, .int n] h = .ok (.ref h.length) (h ++ [o]) ∧ Pot (h ++ [o]) h.length 0) (hr : ∀ (h : Hs) (r : Nat), Pot h r 0 → ∃ h', cf R [.ref r] h = .ok (.bl true) h') : ∀ (n : Nat) (lo : Nat) (h : Hs), lo + n ≤ L → ∃ h', mapF (turnC cf [some (.v (.scr ns)), none] (.v 1) [] (.call R [.call 12 [.var 0, .var 1] []] [])) (rngV lo n) h = .ok (List.replicate n (.bl true)) h'
  | 0, lo, h, _ => ⟨h, rfl⟩
  | n + 1, lo, h, hl => by
    obtain ⟨o, e1, P⟩ := hp lo h (by omega)
    obtain ⟨h2, e2⟩ := hr _ _ P
    obtain ⟨h3, e3⟩ := law_map ns hp hr n (lo + 1) h2 (by omega)
    refine ⟨h3, ?_⟩
    rw [Int.natCast_add] at e3
    show mapF _ (.int lo :: rngV ((lo : Int) + 1) n) h = _
    rw [mf_cons]
    have c1 : ((1 : Nat) : Int) = 1 := rfl
    rw [c1] at e3
    have ht : turnC cf [some (.v (.scr ns)), none] (.v 1) [] (.call R [.call 12 [.var 0, .var 1] []] []) (.int lo) h = .ok (some (.bl true)) h2 := by
      simp [turnC_eq, e1, e2]
    rw [ht]
    simp [e3, List.replicate_succ]
theorem all_rep (n : Nat) : allV (.lst (List.replicate n (.bl true))) = some (.bl true) := by
  have : ∀ n, boolsOf (List.replicate n (Val.bl true)) = some (List.replicate n true) := by
    intro n
    induction n with
    | zero => rfl
    | succ n ih =>
      show (boolsOf (List.replicate n (Val.bl true))).map (true :: ·) = _
      rw [ih]
      rfl
  show (boolsOf (List.replicate n (Val.bl true))).map _ = _
  rw [this]
  simp
/-- a law that asks of the cells of its list whether all is right -/
theorem law_of {k R L f : Nat} {d : FDef} (ns : List Int) (hl : ns.length ≤ 63) (h1 : 1 ≤ L) (hL : L ≤ 1000) (hU : U f = some (.fn d)) (hd : d = ⟨1, 2, [.ret (.bi .all_ [.fr (.comp (.call R [.call 12 [.var 0, .var 1] []] []) (.v 1) (.seq (.call 15 [.var 0, .lit (.int L)] [])) [])])]⟩) (hr : ∀ (h : Hs) (r : Nat), Pot h r 0 → ∃ h', callD U (k + 1) R [.ref r] h = .ok (.bl true) h') : ∃ h', callD U (k + 2) f [.scr ns] [] = .ok (.bl true) h' := by
  obtain ⟨n, e1, hn⟩ := m_cells (k := k) (h := []) ns L hl h1 hL
  obtain ⟨h', e2⟩ := law_map (cf := callD U (k + 1)) (R := R) (L := L) ns (fun n h hn => m_pot (k := k) (h := h) ns n (by omega)) hr n 0 [] (by omega)
  refine ⟨h', ?_⟩
  have ml : (rngV 0 n).length ≤ most := by
    rw [rngV_len]
    exact Nat.le_trans (Nat.le_trans hn hL) (by decide)
  have c0 : ((0 : Nat) : Int) = 0 := rfl
  rw [c0] at e2
  rw [call_eq (k := k + 1) (d := d) hU (by rw [hd]; rfl), hd]
  generalize callD U (k + 1) = cf at *
  simp [start_eq, e1, ml, e2, all_rep]
end LT
set_option Elab.async false
set_option linter.all false
set_option maxRecDepth 100000
set_option maxHeartbeats 2000000
namespace LT
open PySem Pyi
/-! ### words of a rule's text -/
def isDig (c : Nat) : Bool := decide (c ∈ ([48, 49, 50, 51, 52, 53, 54, 55, 56, 57] : List Nat))
def szOf (w : List Nat) : List Nat := if w.take 1 = [45] then w.drop 1 else w
/-- the integer that a word writes -/
def intIn (w : List Nat) : Option Int :=
  if szOf w = [] ∨ (szOf w).all isDig = false then none
  else if (szOf w).take 1 = [48] ∧ w ≠ [48] then none
  else some (if w.take 1 = [45] then -((NumText.digitsVal (szOf w) : Nat) : Int) else ((NumText.digitsVal (szOf w) : Nat) : Int))
def oV : Option Int → Val
  | none => .non
  | some i => .int i
theorem t_dash : Str.ofString "-" = T [45] := by decide +kernel
theorem t_empty : Str.ofString "" = T [] := by decide +kernel
theorem t_zero : Str.ofString "0" = T [48] := by decide +kernel
theorem t_digits : Str.ofString "0123456789" = T [48, 49, 50, 51, 52, 53, 54, 55, 56, 57] := by decide +kernel
theorem ok_of {a : List Nat} (h : a.all (fun c => decide (c < 1114112)) = true) : Ok a := fun c hc => of_decide_eq_true (List.all_eq_true.mp h c hc)
theorem ok_take {a : List Nat} (h : Ok a) (n : Nat) : Ok (a.take n) := fun c hc => h c (List.mem_of_mem_take hc)
theorem ok_drop {a : List Nat} (h : Ok a) (n : Nat) : Ok (a.drop n) := fun c hc => h c (List.mem_of_mem_drop hc)
theorem cut_to1 (a : List Nat) : cut a none (some 1) = a.take 1 := by
  unfold cut sIx
  cases a with
  | nil => rfl
  | cons x a => simp
theorem cut_from1 (a : List Nat) : cut a (some 1) none = a.drop 1 := by
  unfold cut sIx
  cases a with
  | nil => rfl
  | cons x a => simp
theorem bools_map {α : Type} (f : α → Bool) : ∀ (l : List α), boolsOf (l.map fun x => Val.bl (f x)) = some (l.map f)
  | [] => rfl
  | x :: l => by
    show (boolsOf (l.map fun x => Val.bl (f x))).map (f x :: ·) = _
    rw [bools_map f l]
    rfl
theorem all_map {α : Type} (f : α → Bool) (l : List α) : allV (.lst (l.map fun x => Val.bl (f x))) = some (.bl (l.all f)) := by
  show (boolsOf _).map _ = _
  rw [bools_map]
  simp [List.all_map]
theorem int_T {a : List Nat} (hd : a.all isDig = true) (hne : a ≠ []) (hl : a.length ≤ 640) : intV (.str (T a)) = some (.int (NumText.digitsVal a : Nat)) := by
  show (if (T a).length ≤ 640 then (intText? (T a)).map Val.int else none) = _
  rw [len_S, if_pos hl, SX.int_S (List.all_eq_true.mpr fun c hc => ?_) hne (by omega)]
  · rfl
  · have := of_decide_eq_true (List.all_eq_true.mp hd c hc)
    simp only [List.mem_cons, List.not_mem_nil, or_false] at this
    simp
    omega
theorem int_Tn {a : List Nat} (hd : a.all isDig = true) (hne : a ≠ []) (hl : a.length + 1 ≤ 640) : intV (.str (T (45 :: a))) = some (.int (-((NumText.digitsVal a : Nat) : Int))) := by
  show (if (T (45 :: a)).length ≤ 640 then (intText? (T (45 :: a))).map Val.int else none) = _
  rw [len_S, if_pos (by rw [List.length_cons]; exact hl), intText_neg (x := T (45 :: a)) (cs := a) rfl (fun c hc => ?_) hne (by rw [len_S, List.length_cons]; omega)]
  · rfl
  · have := of_decide_eq_true (List.all_eq_true.mp hd c hc)
    simp only [List.mem_cons, List.not_mem_nil, or_false] at this
    omega
theorem m_intIn {k : Nat} {h : Hs} {w : List Nat} (ok : Ok w) (hl : w.length ≤ 600) : callD U (k + 1) 42 [.str (T w)] h = .ok (oV (intIn w)) h := by
  rw [call_eq (d := d42) rfl rfl]
  have ml : w.length ≤ most := Nat.le_trans hl (by decide)
  have k1 : Ok [45] := ok_of (by decide)
  have k0 : Ok [] := ok_of (by decide)
  have kz : Ok [48] := ok_of (by decide)
  have e1 := eq_S (ok_take ok 1) k1
  have main : ∀ (size : List Nat), size = szOf w → ∀ (s2 : Option Slot), retOf (evSs (callD U k) [.if_ (.or_ (.cmp .eq (.var 1) (.lit (.str ""))) (.not_ (.bi .all_ [.fr (.comp (.cmp .in_ (.var 2) (.glb "DIGITS" (.str "0123456789"))) (.v 2) (.seq (.var 1)) [])]))) [.ret (.lit .non)] [], .if_ (.and_ (.cmp .eq (.idx (.var 1) (.lit (.int 0))) (.lit (.str "0"))) (.cmp .ne (.var 0) (.lit (.str "0")))) [.ret (.lit .non)] [], .ret (.bi .int_ [.var 0])]
      [some (.v (.str (T w))), some (.v (.str (T size))), s2] h) = .ok (oV (intIn w)) h := fun size es s2 => by
    have oks : Ok size := by
      rw [es]
      unfold szOf
      split
      · exact ok_drop ok 1
      · exact ok
    have sl : size.length ≤ w.length := by
      rw [es]
      unfold szOf
      split <;> simp
    have slm : size.length ≤ most := Nat.le_trans sl ml
    have e2 := eq_S oks k0
    have a1 := mapF_map (h := h) (i := fun c => Val.str (T [c])) (f := fun c => Val.bl (isDig c)) (g := turnC (callD U k) [some (.v (.str (T w))), some (.v (.str (T size))), s2] (.v 2) [] (.cmp .in_ (.var 2) (.glb "DIGITS" (.str "0123456789")))) size (fun c hc => by
      simp [turnC_eq, t_digits, in_S, isDig])
    have a2 := all_map isDig size
    have a1' := a1
    rw [t_digits] at a1'
    by_cases h0 : size = []
    · have r : intIn w = none := by
        unfold intIn
        rw [← es, if_pos (.inl h0)]
      rw [r]
      subst h0
      simp [t_empty, e2, oV]
    · by_cases h1 : size.all isDig = true
      · obtain ⟨c, r, er⟩ := List.exists_cons_of_ne_nil h0
        have hcm : c ∈ size := by rw [er]; exact List.mem_cons_self
        have g0 : getH h (.str (T size)) (.int 0) = some (.str (T [c])) := by
          rw [getI_S slm, er]
          simp
        have e3 : cmpop .eq (.str (T [c])) (.str (T [48])) = some (decide (c = 48)) := by
          rw [eq_S (fun x hx => oks x (by rw [List.mem_singleton.mp hx]; exact hcm)) kz]
          simp
        have e4 := ne_S ok kz
        have t1 : size.take 1 = [c] := by rw [er]; rfl
        have e2' : cmpop .eq (.str (T size)) (.str (T [])) = some false := by
          rw [e2, decide_eq_false h0]
        have i0 : ¬ (szOf w = [] ∨ (szOf w).all isDig = false) := by
          rw [← es]
          rintro (z | z)
          · exact h0 z
          · rw [h1] at z; cases z
        by_cases h2 : c = 48 ∧ w ≠ [48]
        · have r' : intIn w = none := by
            unfold intIn
            rw [if_neg i0, ← es, if_pos ⟨by rw [t1, h2.1], h2.2⟩]
          rw [r']
          rw [decide_eq_true h2.1] at e3
          rw [decide_eq_false h2.2] at e4
          simp [t_empty, t_zero, t_digits, e2', signs_S, a1', slm, a2, h1, g0, e3, e4, oV]
        · have iv : intV (.str (T w)) = some (oV (intIn w)) := by
            unfold intIn
            rw [if_neg i0, ← es, if_neg (by
              rintro ⟨z1, z2⟩
              rw [t1] at z1
              exact h2 ⟨by simpa using z1, z2⟩)]
            unfold szOf at es
            by_cases hm : w.take 1 = [45]
            · rw [if_pos hm] at es ⊢
              have ew : w = 45 :: size := by
                rw [es]
                conv => lhs; rw [← List.take_append_drop 1 w, hm]
                rfl
              have hl' := hl
              rw [ew] at hl' ⊢
              exact int_Tn h1 h0 (by simp at hl'; omega)
            · rw [if_neg hm] at es ⊢
              have hl' := hl
              rw [← es] at hl' ⊢
              exact int_T h1 h0 (by omega)
          by_cases hc : c = 48
          · have hw : w = [48] := by
              apply Classical.byContradiction
              intro z
              exact h2 ⟨hc, z⟩
            rw [decide_eq_true hc] at e3
            rw [decide_eq_true hw] at e4
            simp [t_empty, t_zero, t_digits, e2', signs_S, a1', slm, a2, h1, g0, e3, e4, iv]
          · rw [decide_eq_false hc] at e3
            simp [t_empty, t_zero, t_digits, e2', signs_S, a1', slm, a2, h1, g0, e3, iv]
      · have h1' : size.all isDig = false := by simpa using h1
        have r : intIn w = none := by
          unfold intIn
          rw [← es, if_pos (.inr h1')]
        rw [r]
        simp [t_empty, t_digits, e2, h0, signs_S, a1', slm, a2, h1', oV]
  have st : evS (callD U k) (.set 1 (.ite (.cmp .eq (.slc (.var 0) none (some (.lit (.int 1)))) (.lit (.str "-"))) (.slc (.var 0) (some (.lit (.int 1))) none) (.var 0))) [some (.v (.str (T w))), none, none] h = .ok .nxt [some (.v (.str (T w))), some (.v (.str (T (szOf w)))), none] h := by
    unfold szOf
    by_cases hm : w.take 1 = [45]
    · rw [decide_eq_true hm] at e1
      rw [if_pos hm]
      simp [getS_S ml, cut_to1, cut_from1, t_dash, e1]
    · rw [decide_eq_false hm] at e1
      rw [if_neg hm]
      simp [getS_S ml, cut_to1, cut_from1, t_dash, e1]
  show retOf ((evS (callD U k) (.set 1 (.ite (.cmp .eq (.slc (.var 0) none (some (.lit (.int 1)))) (.lit (.str "-"))) (.slc (.var 0) (some (.lit (.int 1))) none) (.var 0))) [some (.v (.str (T w))), none, none] h).bind fun env h => evSs (callD U k) _ env h) = _
  rw [st]
  exact main (szOf w) rfl none
end LT
set_option Elab.async false
set_option linter.all false
set_option maxRecDepth 100000
set_option maxHeartbeats 2000000
namespace LT
open PySem Pyi
/-! ### lines of a rule's text -/
abbrev wds (l : List Nat) : List (List Nat) := TL.spl [32] 0 [] l
theorem spl_sub : ∀ (l acc : List Nat) (x : List Nat), x ∈ TL.spl [32] 0 acc l → (∀ c ∈ x, c ∈ acc ∨ c ∈ l) ∧ x.length ≤ acc.length + l.length
  | [], acc, x, h => by
    have e : x = acc := by simpa [TL.spl] using h
    subst e
    exact ⟨fun c hc => .inl hc, by simp⟩
  | c :: r, acc, x, h => by
    unfold TL.spl at h
    by_cases hp : TL.pre [32] (c :: r) = true
    · rw [if_pos hp] at h
      rcases List.mem_cons.mp h with e | h
      · subst e
        exact ⟨fun d hd => .inl hd, by simp⟩
      · obtain ⟨h1, h2⟩ := spl_sub r [] x h
        refine ⟨fun d hd => ?_, by simp at h2 ⊢; omega⟩
        rcases h1 d hd with z | z
        · cases z
        · exact .inr (List.mem_cons_of_mem _ z)
    · rw [if_neg hp] at h
      obtain ⟨h1, h2⟩ := spl_sub r (acc ++ [c]) x h
      refine ⟨fun d hd => ?_, by simp at h2 ⊢; omega⟩
      rcases h1 d hd with z | z
      · rcases List.mem_append.mp z with z | z
        · exact .inl z
        · rw [List.mem_singleton.mp z]
          exact .inr List.mem_cons_self
      · exact .inr (List.mem_cons_of_mem _ z)
theorem wds_ok {l x : List Nat} (hl : Ok l) (h : x ∈ wds l) : Ok x := fun c hc => by
  rcases (spl_sub l [] x h).1 c hc with z | z
  · cases z
  · exact hl c z
theorem wds_len {l x : List Nat} (h : x ∈ wds l) : x.length ≤ l.length := by
  have := (spl_sub l [] x h).2
  simpa using this
theorem t_blank : Str.ofString " " = T [32] := by decide +kernel
theorem t_feed : Str.ofString "\n" = T [10] := by decide +kernel
abbrev wBox : List Nat := [98, 111, 120]
abbrev wBound : List Nat := [98, 111, 117, 110, 100]
abbrev wFrom : List Nat := [102, 114, 111, 109]
abbrev wBeyond : List Nat := [98, 101, 121, 111, 110, 100]
theorem t_box : Str.ofString "box" = T wBox := by decide +kernel
theorem t_bound : Str.ofString "bound" = T wBound := by decide +kernel
theorem t_from : Str.ofString "from" = T wFrom := by decide +kernel
theorem t_beyond : Str.ofString "beyond" = T wBeyond := by decide +kernel
/-- the integer from 1 to high that a line tells behind a word -/
def numIn (l wd : List Nat) (high : Int) : Option Int := match wds l with
  | [a, b] => if a = wd then (match intIn b with
    | some v => if 1 ≤ v ∧ v ≤ high then some v else none
    | none => none) else none
  | _ => none
theorem split_b {l : List Nat} (hl : l.length ≤ most) : splitV (T l) (.str (T [32])) = some ((wds l).map fun x => .str (T x)) := split_V (by decide) (by decide) hl
theorem split_f {l : List Nat} (hl : l.length ≤ most) : splitV (T l) (.str (T [10])) = some ((TL.spl [10] 0 [] l).map fun x => .str (T x)) := split_V (by decide) (by decide) hl
theorem m_numIn {k : Nat} {h : Hs} {l wd : List Nat} {high : Int} (ok : Ok l) (hl : l.length ≤ 600) (okw : Ok wd) : callD U (k + 2) 40 [.str (T l), .str (T wd), .int high] h = .ok (oV (numIn l wd high)) h := by
  rw [call_eq (d := d40) rfl rfl]
  have ml : l.length ≤ most := Nat.le_trans hl (by decide)
  have sp := split_b ml
  have hw1 : ∀ x ∈ wds l, Ok x := fun x hx => wds_ok ok hx
  have hw2 : ∀ x ∈ wds l, x.length ≤ 600 := fun x hx => Nat.le_trans (wds_len hx) hl
  unfold numIn
  generalize wds l = ws at sp hw1 hw2
  match ws, sp, hw1, hw2 with
  | [], sp, _, _ => simp [d40, start_eq, t_blank, sp, oV]
  | [a], sp, _, _ => simp [d40, start_eq, t_blank, sp, oV]
  | a :: b :: c :: r, sp, _, _ =>
    have n2 : ¬ ((r.length : Int) + 1 + 1 + 1 = 2) := by omega
    simp [d40, start_eq, t_blank, sp, oV, n2]
  | [a, b], sp, hw1, hw2 =>
    have e1 := eq_S (hw1 a (by simp)) okw
    have e2 := m_intIn (k := k) (h := h) (hw1 b (by simp)) (hw2 b (by simp))
    show _ = Out.ok (oV (if a = wd then (match intIn b with
      | some v => if 1 ≤ v ∧ v ≤ high then some v else none
      | none => none) else none)) h
    by_cases ha : a = wd
    · rw [decide_eq_true ha] at e1
      rw [if_pos ha]
      cases hi : intIn b with
      | none =>
        rw [hi] at e2
        simp [d40, start_eq, t_blank, sp, oV, e1, e2]
      | some v =>
        rw [hi] at e2
        by_cases h1 : 1 ≤ v
        · by_cases h2 : v ≤ high
          · simp [d40, start_eq, t_blank, sp, oV, e1, e2, h1, h2]
          · simp [d40, start_eq, t_blank, sp, oV, e1, e2, h1, h2]
        · simp [d40, start_eq, t_blank, sp, oV, e1, e2, h1]
    · rw [decide_eq_false ha] at e1
      rw [if_neg ha]
      simp [d40, start_eq, t_blank, sp, oV, e1]
/-- a step: beyond?, place, worth -/
abbrev Step := Bool × Nat × Nat
def wordL (b : Bool) : List Nat := if b then wBeyond else wFrom
def stepV (s : Step) : Val := .tup [.str (T (wordL s.1)), .int s.2.1, .int s.2.2]
def oS : Option Step → Val
  | none => .non
  | some s => stepV s
def bitB (b : Bool) : Nat := if b then 1 else 0
/-- the step that a line tells -/
def stepIn (l : List Nat) (box : Nat) : Option Step := match wds l with
  | [a, b, c] => if a = wFrom ∨ a = wBeyond then (match intIn b, intIn c with
    | some p, some w => if (if a = wFrom then 1 else 0) ≤ p ∧ p < box + (if a = wFrom then 1 else 0) ∧ 0 ≤ w ∧ w ≤ 999999999 then some (decide (a = wBeyond), p.toNat, w.toNat) else none
    | _, _ => none) else none
  | _ => none
theorem m_stepIn {k : Nat} {h : Hs} {l : List Nat} {box : Nat} (ok : Ok l) (hl : l.length ≤ 600) : callD U (k + 2) 41 [.str (T l), .int box] h = .ok (oS (stepIn l box)) h := by
  rw [call_eq (d := d41) rfl rfl]
  have ml : l.length ≤ most := Nat.le_trans hl (by decide)
  have sp := split_b ml
  have hw1 : ∀ x ∈ wds l, Ok x := fun x hx => wds_ok ok hx
  have hw2 : ∀ x ∈ wds l, x.length ≤ 600 := fun x hx => Nat.le_trans (wds_len hx) hl
  have of : Ok wFrom := ok_of (by decide)
  have ob : Ok wBeyond := ok_of (by decide)
  unfold stepIn
  generalize wds l = ws at sp hw1 hw2
  match ws, sp, hw1, hw2 with
  | [], sp, _, _ => simp [d41, start_eq, t_blank, sp, oS]
  | [a], sp, _, _ => simp [d41, start_eq, t_blank, sp, oS]
  | [a, b], sp, _, _ => simp [d41, start_eq, t_blank, sp, oS]
  | a :: b :: c :: d :: r, sp, _, _ =>
    have n2 : ¬ ((r.length : Int) + 1 + 1 + 1 + 1 = 3) := by omega
    simp [d41, start_eq, t_blank, sp, oS, n2]
  | [a, b, c], sp, hw1, hw2 =>
    have oa := hw1 a (by simp)
    have e1 := eq_S oa of
    have e2 := m_intIn (k := k) (h := h) (hw1 b (by simp)) (hw2 b (by simp))
    have e3 := m_intIn (k := k) (h := h) (hw1 c (by simp)) (hw2 c (by simp))
    have i0 : atI [Val.str (T a), .str (T b), .str (T c)] (-1) = some (.str (T c)) := rfl
    have inn : cmpop .notin (.str (T a)) (.tup [.str (T wFrom), .str (T wBeyond)]) = some (!(decide (a = wFrom) || decide (a = wBeyond))) := by
      have p1 : eqOk (.str (T a)) = true := rfl
      show (inL (.str (T a)) [.str (T wFrom), .str (T wBeyond)]).map (!·) = _
      unfold inL
      have s1 : strsOk (.str (T a)) = true := sOk_S oa
      have s2 : ([Val.str (T wFrom), .str (T wBeyond)].all fun w => eqOk w && strsOk w) = true := by decide +kernel
      rw [p1, s1, s2]
      have v1 : ∀ b : List Nat, veq (.str (T b)) (.str (T a)) = decide (a = b) := fun b => by
        rw [veq_S]
        by_cases hb : b = a
        · simp [hb]
        · have : ¬ a = b := fun z => hb z.symm
          simp [hb, this]
      simp [v1]
    show _ = Out.ok (oS (if a = wFrom ∨ a = wBeyond then (match intIn b, intIn c with
      | some p, some w => if (if a = wFrom then 1 else 0) ≤ p ∧ p < box + (if a = wFrom then 1 else 0) ∧ 0 ≤ w ∧ w ≤ 999999999 then some (decide (a = wBeyond), p.toNat, w.toNat) else none
      | _, _ => none) else none)) h
    by_cases hw : a = wFrom ∨ a = wBeyond
    · rw [if_pos hw]
      have inn' : cmpop .notin (.str (T a)) (.tup [.str (T wFrom), .str (T wBeyond)]) = some false := by
        rw [inn]
        rcases hw with z | z <;> simp [z]
      obtain ⟨lo, elo, e1'⟩ : ∃ lo : Nat, (if a = wFrom then (1 : Int) else 0) = (lo : Int) ∧ evE (callD U (k + 1)) (.ite (.cmp .eq (.idx (.var 2) (.lit (.int 0))) (.glb "FROM" (.str "from"))) (.lit (.int 1)) (.lit (.int 0))) [some (.v (.str (T l))), some (.v (.int box)), some (.v (.lst [.str (T a), .str (T b), .str (T c)])), none, some (.v (oV (intIn b))), some (.v (oV (intIn c)))] h = .ok (.int lo) h := by
        by_cases ha : a = wFrom
        · rw [decide_eq_true ha] at e1
          exact ⟨1, by rw [if_pos ha]; rfl, by simp [t_from, e1]⟩
        · rw [decide_eq_false ha] at e1
          exact ⟨0, by rw [if_neg ha]; rfl, by simp [t_from, e1]⟩
      have st : evS (callD U (k + 1)) (.set 3 (.ite (.cmp .eq (.idx (.var 2) (.lit (.int 0))) (.glb "FROM" (.str "from"))) (.lit (.int 1)) (.lit (.int 0)))) [some (.v (.str (T l))), some (.v (.int box)), some (.v (.lst [.str (T a), .str (T b), .str (T c)])), none, some (.v (oV (intIn b))), some (.v (oV (intIn c)))] h = .ok .nxt [some (.v (.str (T l))), some (.v (.int box)), some (.v (.lst [.str (T a), .str (T b), .str (T c)])), some (.v (.int lo)), some (.v (oV (intIn b))), some (.v (oV (intIn c)))] h := by
        rw [s_set_, e1']
        rfl
      have fin : retOf (evSs (callD U (k + 1)) [.if_ (.or_ (.cmp .is_ (.var 4) (.lit .non)) (.or_ (.cmp .is_ (.var 5) (.lit .non)) (.or_ (.not_ (.chn .le .lt (.var 3) (.var 4) (.bin .add (.var 1) (.var 3)))) (.not_ (.chn .le .le (.lit (.int 0)) (.var 5) (.glb "MOST_WORTH" (.int 999999999))))))) [.ret (.lit .non)] [], .ret (.tup [.idx (.var 2) (.lit (.int 0)), .var 4, .var 5])]
          [some (.v (.str (T l))), some (.v (.int box)), some (.v (.lst [.str (T a), .str (T b), .str (T c)])), some (.v (.int lo)), some (.v (oV (intIn b))), some (.v (oV (intIn c)))] h) = Out.ok (oS (match intIn b, intIn c with
          | some p, some w => if (if a = wFrom then 1 else 0) ≤ p ∧ p < box + (if a = wFrom then 1 else 0) ∧ 0 ≤ w ∧ w ≤ 999999999 then some (decide (a = wBeyond), p.toNat, w.toNat) else none
          | _, _ => none)) h := by
        rw [elo]
        cases hi : intIn b with
        | none => cases hj : intIn c <;> simp [oV, oS]
        | some p =>
          cases hj : intIn c with
          | none => simp [oV, oS]
          | some w =>
            by_cases c1 : (lo : Int) ≤ p
            · by_cases c2 : p < box + lo
              · by_cases c3 : 0 ≤ w
                · by_cases c4 : w ≤ 999999999
                  · have tp : ((p.toNat : Nat) : Int) = p := Int.toNat_of_nonneg (by omega)
                    have tw : ((w.toNat : Nat) : Int) = w := Int.toNat_of_nonneg c3
                    have et : T a = T (wordL (decide (a = wBeyond))) := by
                      rcases hw with z | z
                      · rw [z]; rfl
                      · rw [z]; rfl
                    simp only [c1, c2, c3, c4, and_self, if_true, oS, stepV, tp, tw]
                    rw [← et]
                    simp [oV, c1, c2, c3, c4]
                  · simp [oV, oS, c1, c2, c3, c4]
                · simp [oV, oS, c1, c2, c3]
              · simp [oV, oS, c1, c2]
            · simp [oV, oS, c1]
      have st2 : evSs (callD U (k + 1)) d41.body (startE d41.n [.str (T l), .int box]) h = (evS (callD U (k + 1)) (.set 3 (.ite (.cmp .eq (.idx (.var 2) (.lit (.int 0))) (.glb "FROM" (.str "from"))) (.lit (.int 1)) (.lit (.int 0)))) [some (.v (.str (T l))), some (.v (.int box)), some (.v (.lst [.str (T a), .str (T b), .str (T c)])), none, some (.v (oV (intIn b))), some (.v (oV (intIn c)))] h).bind fun env h => evSs (callD U (k + 1)) [.if_ (.or_ (.cmp .is_ (.var 4) (.lit .non)) (.or_ (.cmp .is_ (.var 5) (.lit .non)) (.or_ (.not_ (.chn .le .lt (.var 3) (.var 4) (.bin .add (.var 1) (.var 3)))) (.not_ (.chn .le .le (.lit (.int 0)) (.var 5) (.glb "MOST_WORTH" (.int 999999999))))))) [.ret (.lit .non)] [], .ret (.tup [.idx (.var 2) (.lit (.int 0)), .var 4, .var 5])] env h := by
        rw [st]
        have pre : ∀ (ss : List S), evSs (callD U (k + 1)) (.set 2 (.fr (.split (.var 0) (.glb "BLANK" (.str " ")))) :: .if_ (.or_ (.cmp .ne (.bi .len [.var 2]) (.glb "TRIPLE" (.int 3))) (.cmp .notin (.idx (.var 2) (.lit (.int 0))) (.tup [.glb "FROM" (.str "from"), .glb "BEYOND" (.str "beyond")]))) [.ret (.lit .non)] [] :: .par [4, 5] [.call 42 [.idx (.var 2) (.lit (.int 1))] [], .call 42 [.idx (.var 2) (.neg (.lit (.int 1)))] []] :: ss) [some (.v (.str (T l))), some (.v (.int box)), none, none, none, none] h = evSs (callD U (k + 1)) ss [some (.v (.str (T l))), some (.v (.int box)), some (.v (.lst [.str (T a), .str (T b), .str (T c)])), none, some (.v (oV (intIn b))), some (.v (oV (intIn c)))] h := fun ss => by
          simp [t_blank, t_from, t_beyond, sp, inn', i0, e2, e3]
        show evSs (callD U (k + 1)) (_ :: _ :: _ :: _) [some (.v (.str (T l))), some (.v (.int box)), none, none, none, none] h = _
        rw [pre, ss_cons, st]
      rw [st2, st]
      exact fin
    · rw [if_neg hw]
      have n1 : ¬ a = wFrom := fun z => hw (.inl z)
      have n2 : ¬ a = wBeyond := fun z => hw (.inr z)
      rw [decide_eq_false n1, decide_eq_false n2] at inn
      simp [d41, start_eq, t_blank, t_from, t_beyond, sp, inn, oS]
end LT
set_option Elab.async false
set_option linter.all false
set_option maxRecDepth 100000
set_option maxHeartbeats 2000000
namespace LT
open PySem Pyi
/-! ### a rule is made -/
def spc (s : Step) : Nat := 2 * s.2.1 + bitB s.1
/-- steps one behind the other -/
def Asc (l : List Step) : Prop := l.Pairwise fun a b => spc a < spc b
theorem m_spaceAt {k : Nat} {h : Hs} {s : Step} (hs : s.2.1 < 2 ^ 100) : callD U (k + 1) 39 [stepV s] h = .ok (.int (spc s)) h := by
  rw [call_eq (d := d39) rfl rfl]
  have s2 : sm 2 = true := by decide +kernel
  have sp : sm (s.2.1 : Int) = true := sm_of (by rw [Int.natAbs_natCast]; exact Nat.lt_of_lt_of_le hs (Nat.pow_le_pow_right (by decide) (by decide)))
  have ob : Ok wBeyond := ok_of (by decide)
  have of : Ok wFrom := ok_of (by decide)
  obtain ⟨b, p, w⟩ := s
  cases b with
  | false =>
    have e1 := eq_S of ob
    have e2 : decide (wFrom = wBeyond) = false := by decide
    rw [e2] at e1
    simp [d39, start_eq, stepV, wordL, t_beyond, e1, b_mul s2 sp, spc, bitB]
  | true =>
    have e1 := eq_S ob ob
    have e2 : decide (wBeyond = wBeyond) = true := by decide
    rw [e2] at e1
    simp [d39, start_eq, stepV, wordL, t_beyond, e1, b_mul s2 sp, spc, bitB]
theorem at_last {α : Type} (xs : List α) (x : α) : atI (xs ++ [x]) (-1) = some x := by
  unfold atI ixN
  have h1 : ¬ (0 : Int) ≤ -1 := by decide
  have h2 : -((xs ++ [x]).length : Int) ≤ -1 := by rw [List.length_append]; simp; omega
  rw [if_neg h1, if_pos h2]
  have h3 : ((-1 : Int) + ((xs ++ [x]).length : Int)).toNat = xs.length := by rw [List.length_append, List.length_singleton]; omega
  show (xs ++ [x])[((-1 : Int) + ((xs ++ [x]).length : Int)).toNat]? = _
  rw [h3]
  simp
theorem parts_loop {k : Nat} {h : Hs} {a0 a1 a3 : Option Slot} {box : Nat} : ∀ (ls : List (List Nat)) (ss ds : List Step) (n : Nat) (s5 s6 s7 : Option Slot), ls.map (fun l => stepIn l box) = ss.map some → (∀ l ∈ ls, Ok l ∧ l.length ≤ 600) → (∀ s ∈ ds ++ ss, s.2.1 < 2 ^ 100) → Asc (ds ++ ss) → (ds ++ ss).length ≤ 1000 →
    ∃ t5 t6 t7, loopF (turnF (callD U (k + 2)) (.t [.v 5, .v 6]) [.set 7 (.call 41 [.var 6, .var 2] []), .if_ (.or_ (.cmp .is_ (.var 7) (.lit .non)) (.and_ (.oemp 4 false) (.cmp .le (.call 39 [.var 7] []) (.call 39 [.oidx 4 (.neg (.lit (.int 1)))] [])))) [.nev] [], .app 4 (.var 7)]) (enumV n (ls.map fun x => Val.str (T x)))
      [a0, a1, some (.v (.int box)), a3, some (.own (ds.map stepV)), s5, s6, s7] h = .ok .nxt [a0, a1, some (.v (.int box)), a3, some (.own ((ds ++ ss).map stepV)), t5, t6, t7] h
  | [], ss, ds, n, s5, s6, s7, e, _, _, _, _ => by
    have : ss = [] := by cases ss <;> simp at e <;> rfl
    subst this
    exact ⟨s5, s6, s7, by simp [enumV]⟩
  | l :: ls, [], ds, n, s5, s6, s7, e, _, _, _, _ => by simp at e
  | l :: ls, s :: ss, ds, n, s5, s6, s7, e, hok, hb, ha, hlen => by
    simp only [List.map_cons, List.cons.injEq] at e
    obtain ⟨e1, e2⟩ := e
    have st := m_stepIn (k := k) (h := h) (box := box) (hok l List.mem_cons_self).1 (hok l List.mem_cons_self).2
    rw [e1] at st
    have st' : callD U (k + 2) 41 [.str (T l), .int box] h = .ok (stepV s) h := st
    have hs : s.2.1 < 2 ^ 100 := hb s (by simp)
    have q1 := m_spaceAt (k := k + 1) (h := h) hs
    have nn : isNon (stepV s) = false := rfl
    have as : ds ++ s :: ss = (ds ++ [s]) ++ ss := by simp
    obtain ⟨t5, t6, t7, ih⟩ := parts_loop (k := k) (h := h) (a0 := a0) (a1 := a1) (a3 := a3) (box := box) ls ss (ds ++ [s]) (n + 1) (some (.v (.int n))) (some (.v (.str (T l)))) (some (.v (stepV s))) e2 (fun l hl => hok l (List.mem_cons_of_mem _ hl)) (by rw [← as]; exact hb) (by rw [← as]; exact ha) (by rw [← as]; exact hlen)
    refine ⟨t5, t6, t7, ?_⟩
    have hm : (ds.map stepV).length ≤ most := by
      rw [List.length_map]
      rw [List.length_append] at hlen
      exact Nat.le_trans (by omega) (show 1000 ≤ most by decide)
    rw [as, ← ih]
    show loopF _ (.tup [.int n, .str (T l)] :: enumV (n + 1) (ls.map fun x => Val.str (T x))) _ h = _
    rw [lf_cons]
    have turn : turnF (callD U (k + 2)) (.t [.v 5, .v 6]) [.set 7 (.call 41 [.var 6, .var 2] []), .if_ (.or_ (.cmp .is_ (.var 7) (.lit .non)) (.and_ (.oemp 4 false) (.cmp .le (.call 39 [.var 7] []) (.call 39 [.oidx 4 (.neg (.lit (.int 1)))] [])))) [.nev] [], .app 4 (.var 7)] (.tup [.int n, .str (T l)]) [a0, a1, some (.v (.int box)), a3, some (.own (ds.map stepV)), s5, s6, s7] h
        = .ok .nxt [a0, a1, some (.v (.int box)), a3, some (.own ((ds ++ [s]).map stepV)), some (.v (.int n)), some (.v (.str (T l))), some (.v (stepV s))] h := by
      rcases List.eq_nil_or_concat ds with z | ⟨ds', d, z⟩
      · subst z
        simp [turnF_eq, st', nn, hm]
      · have z' : ds = ds' ++ [d] := by rw [z, List.concat_eq_append]
        clear z
        subst z'
        have hd : d.2.1 < 2 ^ 100 := hb d (by simp)
        have q2 := m_spaceAt (k := k + 1) (h := h) hd
        have lt : spc d < spc s := by
          have := (List.pairwise_append.mp ha).2.2 d (by simp) s (by simp)
          exact this
        have nle : ¬ ((spc s : Int) ≤ (spc d : Int)) := by omega
        have al : atI (ds'.map stepV ++ [stepV d]) (-1) = some (stepV d) := at_last _ _
        have em : (ds'.map stepV ++ [stepV d]).isEmpty = false := by simp
        rw [List.map_append, List.map_cons, List.map_nil] at hm
        have hm : ds'.length + 1 ≤ most := by simpa using hm
        simp [turnF_eq, st', nn, hm, q1, q2, al, nle, em]
    rw [turn]
    rfl
theorem cut_from2 {α : Type} (a b : α) (r : List α) : cut (a :: b :: r) (some 2) none = r := by
  unfold cut sIx
  simp
/-- a text that tells a rule -/
structure Told (l : List Nat) (box bound : Nat) (ss : List Step) : Prop where
  ok : Ok l
  len : l.length ≤ 100000
  ex : ∃ b0 b1 ls, TL.spl [10] 0 [] l = b0 :: b1 :: ls ∧ (∀ x ∈ b0 :: b1 :: ls, x.length ≤ 600) ∧ numIn b0 wBox 60 = some (box : Int) ∧ numIn b1 wBound 999999999 = some (bound : Int) ∧ ls.map (fun l => stepIn l box) = ss.map some
  small : ∀ s ∈ ss, s.2.1 < 2 ^ 100
  asc : Asc ss
  few : ss.length ≤ 1000
theorem spl_sub10 : ∀ (l acc : List Nat) (x : List Nat), x ∈ TL.spl [10] 0 acc l → (∀ c ∈ x, c ∈ acc ∨ c ∈ l)
  | [], acc, x, h => by
    have e : x = acc := by simpa [TL.spl] using h
    subst e
    exact fun c hc => .inl hc
  | c :: r, acc, x, h => by
    unfold TL.spl at h
    by_cases hp : TL.pre [10] (c :: r) = true
    · rw [if_pos hp] at h
      rcases List.mem_cons.mp h with e | h
      · subst e
        exact fun d hd => .inl hd
      · intro d hd
        rcases spl_sub10 r [] x h d hd with z | z
        · cases z
        · exact .inr (List.mem_cons_of_mem _ z)
    · rw [if_neg hp] at h
      intro d hd
      rcases spl_sub10 r (acc ++ [c]) x h d hd with z | z
      · rcases List.mem_append.mp z with z | z
        · exact .inl z
        · rw [List.mem_singleton.mp z]
          exact .inr List.mem_cons_self
      · exact .inr (List.mem_cons_of_mem _ z)
theorem m_parts {k : Nat} {h : Hs} {l : List Nat} {box bound : Nat} {ss : List Step} (t : Told l box bound ss) : callD U (k + 3) 37 [.str (T l)] h = .ok (.tup [.int box, .int bound, .tup (ss.map stepV)]) h := by
  obtain ⟨ok, len, ⟨b0, b1, ls, e, e0, e1, e2, e3⟩, small, asc, few⟩ := t
  rw [call_eq (d := d37) rfl rfl]
  have ml : l.length ≤ most := Nat.le_trans len (by decide)
  have sp := split_f ml
  rw [e] at sp
  have oks : ∀ x ∈ b0 :: b1 :: ls, Ok x := fun x hx c hc => by
    rcases spl_sub10 l [] x (by rw [e]; exact hx) c hc with z | z
    · cases z
    · exact ok c z
  have obx : Ok wBox := ok_of (by decide)
  have obd : Ok wBound := ok_of (by decide)
  have n1 := m_numIn (k := k) (h := h) (high := 60) (oks b0 (by simp)) (e0 b0 (by simp)) obx
  have n2 := m_numIn (k := k) (h := h) (high := 999999999) (oks b1 (by simp)) (e0 b1 (by simp)) obd
  rw [e1] at n1
  rw [e2] at n2
  obtain ⟨t5, t6, t7, lp⟩ := parts_loop (k := k) (h := h) (a0 := some (.v (.str (T l)))) (a1 := some (.v (.lst ((b0 :: b1 :: ls).map fun x => .str (T x))))) (a3 := some (.v (.int bound))) (box := box) ls ss [] 0 none none none e3 (fun x hx => ⟨oks x (by simp [hx]), e0 x (by simp [hx])⟩) (by simpa using small) (by simpa using asc) (by simpa using few)
  have i1 : isiOf (.str (T l)) .str = some true := rfl
  have sl : getS (.lst ((b0 :: b1 :: ls).map fun x => .str (T x))) (some 2) none = some (.lst (ls.map fun x => .str (T x))) := by
    show some (Val.lst (cut _ (some 2) none)) = _
    rw [List.map_cons, List.map_cons, cut_from2]
  have g1 : (1 : Int) < (ls.length : Int) + 1 + 1 := by omega
  simp only [List.map_nil, List.nil_append] at lp
  simp only [oV] at n1 n2
  simp only [List.map_cons] at sp lp sl
  simp [d37, start_eq, i1, t_feed, t_box, t_bound, sp, n1, n2, lp, sl, g1]
/-! ### what sizes are worth, by space -/
def wAt (ss : List Step) : Nat → Nat
  | 0 => 0
  | s + 1 => match ss.find? fun t => spc t == s + 1 with
    | some t => t.2.2
    | none => wAt ss s
theorem any_keys (ss : List Step) (n : Nat) (h : ∀ t ∈ ss, spc t ≠ n) : ((ss.map fun s => Val.int (spc s)).any fun k => keyEq k (.int n)) = false := by
  rw [List.any_map, List.any_eq_false]
  intro t ht
  have := h t ht
  show ¬ ((spc t : Int) == (n : Int)) = true
  simp
  omega
theorem putAll_steps : ∀ (ss ds : List Step), Asc (ds ++ ss) → putAllL (ss.map fun s => .tup [.int (spc s), .int s.2.2]) (ds.map (fun s => Val.int (spc s)), ds.map fun s => Val.int s.2.2) = ((ds ++ ss).map (fun s => Val.int (spc s)), (ds ++ ss).map fun s => Val.int s.2.2)
  | [], ds, _ => by simp [putAllL]
  | s :: ss, ds, h => by
    have a := any_keys ds (spc s) (fun t ht => Nat.ne_of_lt ((List.pairwise_append.mp h).2.2 t ht s (by simp)))
    have ih := putAll_steps ss (ds ++ [s]) (by simpa using h)
    show putAllL (ss.map _) (dput _ _ (.int (spc s)) (.int s.2.2)) = _
    unfold dput
    rw [a]
    simpa using ih
theorem dget_steps (n : Nat) : ∀ ss : List Step, dget (ss.map fun s => Val.int (spc s)) (ss.map fun s => Val.int s.2.2) (.int n) = (ss.find? fun t => spc t == n).map fun t => .int t.2.2
  | [] => rfl
  | s :: ss => by
    show (if ((spc s : Int) == (n : Int)) then some (Val.int s.2.2) else dget _ _ _) = _
    rw [List.find?_cons]
    by_cases hn : spc s = n
    · simp [hn]
    · have h1 : ((spc s : Int) == (n : Int)) = false := by simp; omega
      have h2 : (spc s == n) = false := by simpa using hn
      rw [h1, h2]
      exact dget_steps n ss
theorem worths_loop {cf : Nat → List Val → Hs → Out Val} {h : Hs} {a0 a1 a5 : Option Slot} {ss : List Step} : ∀ (m i : Nat) (s4 : Option Slot), i + m ≤ 1000 → ∃ t4, loopF (turnF cf (.v 4) [.app 3 (.dget (.var 2) (.var 4) (.oidx 3 (.neg (.lit (.int 1)))))]) (rngV ((i : Int) + 1) m)
      [a0, a1, some (.v (.dct (ss.map fun s => .int (spc s)) (ss.map fun s => .int s.2.2))), some (.own ((List.range (i + 1)).map fun s => .int (wAt ss s))), s4, a5] h
      = .ok .nxt [a0, a1, some (.v (.dct (ss.map fun s => .int (spc s)) (ss.map fun s => .int s.2.2))), some (.own ((List.range (i + m + 1)).map fun s => .int (wAt ss s))), t4, a5] h
  | 0, i, s4, _ => ⟨s4, rfl⟩
  | m + 1, i, s4, hb => by
    obtain ⟨t4, ih⟩ := worths_loop (cf := cf) (h := h) (a0 := a0) (a1 := a1) (a5 := a5) (ss := ss) m (i + 1) (some (.v (.int ((i : Int) + 1)))) (by omega)
    refine ⟨t4, ?_⟩
    have ei : i + (m + 1) + 1 = i + 1 + m + 1 := by omega
    rw [ei, ← ih]
    show loopF _ (.int ((i : Int) + 1) :: rngV ((i : Int) + 1 + 1) m) _ h = _
    have c1 : (((i + 1 : Nat) : Int) + 1) = (i : Int) + 1 + 1 := by omega
    rw [lf_cons, c1]
    have r1 : (List.range (i + 1)).map (fun s => Val.int (wAt ss s)) = (List.range i).map (fun s => Val.int (wAt ss s)) ++ [.int (wAt ss i)] := by rw [List.range_succ, List.map_append]; rfl
    have r2 : (List.range (i + 1 + 1)).map (fun s => Val.int (wAt ss s)) = (List.range (i + 1)).map (fun s => Val.int (wAt ss s)) ++ [.int (wAt ss (i + 1))] := by rw [List.range_succ, List.map_append]; rfl
    have al : atI ((List.range (i + 1)).map (fun s => Val.int (wAt ss s))) (-1) = some (.int (wAt ss i)) := by rw [r1]; exact at_last _ _
    have dg : dgetV (.dct (ss.map fun s => .int (spc s)) (ss.map fun s => .int s.2.2)) (.int ((i : Int) + 1)) (.int (wAt ss i)) = some (.int (wAt ss (i + 1))) := by
      show some ((dget _ _ (.int ((i : Int) + 1))).getD _) = _
      have c2 : ((i : Int) + 1) = ((i + 1 : Nat) : Int) := by omega
      rw [c2, dget_steps]
      show _ = some (Val.int ((match ss.find? fun t => spc t == i + 1 with
        | some t => t.2.2
        | none => wAt ss i : Nat) : Int))
      cases ss.find? fun t => spc t == i + 1 <;> rfl
    have hm : ((List.range (i + 1)).map (fun s => Val.int (wAt ss s))).length ≤ most := by
      rw [List.length_map, List.length_range]
      exact Nat.le_trans (by omega) (show 1000 ≤ most by decide)
    rw [r2]
    generalize (List.range (i + 1)).map (fun s => Val.int (wAt ss s)) = V at al hm
    simp [turnF_eq, al, dg, hm]
def worthsV (box : Nat) (ss : List Step) : Val := .tup ((List.range (2 * box + 1)).map fun s => .int (wAt ss s))
theorem m_worths {k : Nat} {h : Hs} {box : Nat} {ss : List Step} (hb : box ≤ 60) (hs : ∀ s ∈ ss, s.2.1 < 2 ^ 100) (asc : Asc ss) (few : ss.length ≤ 1000) : callD U (k + 2) 38 [.int box, .tup (ss.map stepV)] h = .ok (worthsV box ss) h := by
  rw [call_eq (d := d38) rfl rfl]
  have m1 := mapF_map (h := h) (i := stepV) (f := fun s => Val.tup [.int (spc s), .int s.2.2]) (g := turnK (callD U (k + 1)) [some (.v (.int box)), some (.v (.tup (ss.map stepV))), none, none, none, none] (.v 5) (.call 39 [.var 5] []) (.idx (.var 5) (.neg (.lit (.int 1))))) ss (fun s hm => by
    have q := m_spaceAt (k := k) (h := h) (hs s hm)
    have i0 : atI [Val.str (T (wordL s.1)), .int s.2.1, .int s.2.2] (-1) = some (.int s.2.2) := rfl
    have fk : flatK (.int (spc s)) = true := rfl
    have q' : callD U (k + 1) 39 [.tup [.str (T (wordL s.1)), .int s.2.1, .int s.2.2]] h = .ok (.int (spc s)) h := q
    simp [turnK_eq, q', stepV, i0, fk])
  have pa := putAll_steps ss [] (by simpa using asc)
  simp only [List.map_nil, List.nil_append] at pa
  have pv : putAll (ss.map fun s => .tup [.int (spc s), .int s.2.2]) = .dct (ss.map fun s => .int (spc s)) (ss.map fun s => .int s.2.2) := by
    unfold putAll
    rw [pa]
  have hm : ss.length ≤ most := Nat.le_trans few (by decide)
  obtain ⟨t4, lp⟩ := worths_loop (cf := callD U (k + 1)) (h := h) (a0 := some (.v (.int box))) (a1 := some (.v (.tup (ss.map stepV)))) (a5 := none) (ss := ss) (2 * box) 0 none (by omega)
  have r0 : (List.range (0 + 1)).map (fun s => Val.int (wAt ss s)) = [.int 0] := rfl
  rw [r0, Nat.zero_add] at lp
  have s2 : sm 2 = true := by decide +kernel
  have sb : sm (box : Int) = true := sm_of (by rw [Int.natAbs_natCast]; exact Nat.lt_of_le_of_lt hb (by decide +kernel))
  have rg1 : rgOk 1 = true := by decide +kernel
  have rg2 : rgOk (2 * (box : Int) + 1) = true := by
    unfold rgOk
    rw [Bool.and_eq_true, decide_eq_true_eq, decide_eq_true_eq]
    omega
  have tn : (2 * (box : Int) + 1 - 1).toNat = 2 * box := by omega
  have tn2 : (2 * (box : Int) + 1).toNat - 1 = 2 * box := by omega
  have c0 : ((0 : Nat) : Int) + 1 = 1 := rfl
  rw [c0] at lp
  simp [d38, start_eq, m1, pv, hm, b_mul s2 sb, rg1, rg2, tn, tn2, lp, worthsV]
def ruleN : List Str := ["own_text", "own_box", "own_bound", "own_steps", "own_worths"]
def ruleV (l : List Nat) (box bound : Nat) (ss : List Step) : Val := .inst 0 ruleN [.str (T l), .int box, .int bound, .tup (ss.map stepV), worthsV box ss]
theorem m_rule {k : Nat} {h : Hs} {l : List Nat} {box bound : Nat} {ss : List Step} (t : Told l box bound ss) (hb : box ≤ 60) : callD U (k + 5) 28 [.str (T l)] h = .ok (ruleV l box bound ss) h := by
  have e : callD U (k + 3 + 2) 28 [.str (T l)] h = runI (callD U (k + 3)) 0 d51 [.str (T l)] h := callD_mk rfl
  rw [e]
  have p := m_parts (k := k) (h := h) t
  have w := m_worths (k := k + 1) (h := h) hb t.small t.asc t.few
  have body : evSs (callD U (k + 3)) d51.body (startI 0 d51.n [.str (T l)]) h = .ok .nxt [some (.ownI 0 ruleN [.str (T l), .int box, .int bound, .tup (ss.map stepV), worthsV box ss]), some (.v (.str (T l))), some (.v (.int box)), some (.v (.int bound)), some (.v (.tup (ss.map stepV)))] h := by
    have st : startI 0 d51.n [.str (T l)] = [some (.ownI 0 [] []), some (.v (.str (T l))), none, none, none] := rfl
    rw [st]
    have c1 : ([] : List Str).contains ("own_text" : Str) = false := rfl
    have c2 : (["own_text"] : List Str).contains ("own_box" : Str) = false := by decide +kernel
    have c3 : (["own_text", "own_box"] : List Str).contains ("own_bound" : Str) = false := by decide +kernel
    have c4 : (["own_text", "own_box", "own_bound"] : List Str).contains ("own_steps" : Str) = false := by decide +kernel
    have c5 : (["own_text", "own_box", "own_bound", "own_steps"] : List Str).contains ("own_worths" : Str) = false := by decide +kernel
    unfold ruleN
    simp [d51, p, w]
    simp_all
  unfold runI
  rw [if_pos (show [Val.str (T l)].length + 1 = d51.ps from rfl), body]
  rfl
end LT
set_option Elab.async false
set_option linter.all false
set_option maxRecDepth 100000
set_option maxHeartbeats 2000000
namespace LT
open PySem Pyi
/-! ### the text of a rule -/
theorem nm_head (n : Nat) : (nm n).take 1 = [48] → n = 0 := by
  induction n using Nat.strongRecOn with
  | _ n ih =>
    intro h
    by_cases hn : n < 10
    · rw [show nm n = [48 + n] from TL.numL_lt hn] at h
      simp at h
      omega
    · rw [show nm n = nm (n / 10) ++ [48 + n % 10] from TL.numL_step (by omega)] at h
      have ne : nm (n / 10) ≠ [] := TL.numL_ne _
      have h2 : (nm (n / 10)).take 1 = [48] := by
        obtain ⟨c, r, e⟩ := List.exists_cons_of_ne_nil ne
        rw [e] at h ⊢
        simpa using h
      have := ih (n / 10) (by omega) h2
      omega
theorem nm_dig (n : Nat) : (nm n).all isDig = true := List.all_eq_true.mpr fun c hc => by
  have := TL.numL_digits n c hc
  refine decide_eq_true ?_
  simp only [List.mem_cons, List.not_mem_nil, or_false]
  omega
theorem intIn_nm (n : Nat) : intIn (nm n) = some (n : Int) := by
  have h45 : ¬ (nm n).take 1 = [45] := fun z => by
    have : (45 : Nat) ∈ nm n := List.mem_of_mem_take (i := 1) (by rw [z]; simp)
    exact TL.numL_free (.inl (by decide)) this
  have sz : szOf (nm n) = nm n := by
    unfold szOf
    rw [if_neg h45]
  unfold intIn
  rw [sz, if_neg (by rintro (z | z); exact TL.numL_ne n z; rw [nm_dig n] at z; cases z), if_neg (by
    rintro ⟨z1, z2⟩
    have := nm_head n z1
    subst this
    exact z2 (TL.numL_lt (by decide))), if_neg h45, show NumText.digitsVal (nm n) = n from TL.numL_val n]
def lineL (s : Step) : List Nat := wordL s.1 ++ 32 :: (nm s.2.1 ++ 32 :: nm s.2.2)
def headL (box bound : Nat) : List (List Nat) := [wBox ++ 32 :: nm box, wBound ++ 32 :: nm bound]
def textL (box bound : Nat) (ss : List Step) : List Nat := TL.joinL [10] (headL box bound ++ ss.map lineL)
/-- all that a rule's text may tell -/
structure Fine (box bound : Nat) (ss : List Step) : Prop where
  b1 : 1 ≤ box
  b2 : box ≤ 60
  d1 : 1 ≤ bound
  d2 : bound ≤ 999999999
  st : ∀ s ∈ ss, (s.1 = false → 1 ≤ s.2.1 ∧ s.2.1 ≤ box) ∧ (s.1 = true → s.2.1 < box) ∧ s.2.2 ≤ 999999999
  asc : Asc ss
theorem wds_join (ps : List (List Nat)) (hne : ps ≠ []) (h : ∀ p ∈ ps, 32 ∉ p) : wds (TL.joinL [32] ps) = ps := TL.spl_join hne h
theorem wds2 {a b : List Nat} (ha : 32 ∉ a) (hb : 32 ∉ b) : wds (a ++ 32 :: b) = [a, b] := wds_join [a, b] (by simp) (by simp [ha, hb])
theorem wds3 {a b c : List Nat} (ha : 32 ∉ a) (hb : 32 ∉ b) (hc : 32 ∉ c) : wds (a ++ 32 :: (b ++ 32 :: c)) = [a, b, c] := wds_join [a, b, c] (by simp) (by simp [ha, hb, hc])
theorem nm32 (n : Nat) : 32 ∉ nm n := TL.numL_free (.inl (by decide))
theorem nm10 (n : Nat) : 10 ∉ nm n := TL.numL_free (.inl (by decide))
theorem numIn_box {box : Nat} (h1 : 1 ≤ box) (h2 : box ≤ 60) : numIn (wBox ++ 32 :: nm box) wBox 60 = some (box : Int) := by
  unfold numIn
  rw [wds2 (by decide) (nm32 box)]
  simp [intIn_nm]
  omega
theorem numIn_bound {bound : Nat} (h1 : 1 ≤ bound) (h2 : bound ≤ 999999999) : numIn (wBound ++ 32 :: nm bound) wBound 999999999 = some (bound : Int) := by
  unfold numIn
  rw [wds2 (by decide) (nm32 bound)]
  simp [intIn_nm]
  omega
theorem stepIn_line {box : Nat} {s : Step} (h : (s.1 = false → 1 ≤ s.2.1 ∧ s.2.1 ≤ box) ∧ (s.1 = true → s.2.1 < box) ∧ s.2.2 ≤ 999999999) : stepIn (lineL s) box = some s := by
  obtain ⟨b, p, w⟩ := s
  unfold stepIn lineL
  have hw : 32 ∉ wordL b := by cases b <;> decide
  rw [wds3 hw (nm32 p) (nm32 w)]
  simp only [intIn_nm]
  cases b with
  | false =>
    obtain ⟨h1, h2⟩ := h.1 rfl
    have h3 := h.2.2
    have e1 : wordL false = wFrom := rfl
    have n1 : ¬ wFrom = wBeyond := by decide
    simp only [e1, n1, or_false, if_true, true_or]
    rw [if_pos (by simp at h1 h2 h3 ⊢; omega)]
    simp
  | true =>
    have h2 := h.2.1 rfl
    have h3 := h.2.2
    have e1 : wordL true = wBeyond := rfl
    have n1 : ¬ wBeyond = wFrom := by decide
    simp only [e1, n1, or_true, if_true, if_false]
    rw [if_pos (by simp at h2 h3 ⊢; omega)]
    simp
theorem asc_len : ∀ (l : List Step) (a m : Nat), Asc l → (∀ s ∈ l, a ≤ spc s ∧ spc s < m) → l.length ≤ m - a
  | [], _, _, _, _ => Nat.zero_le _
  | s :: l, a, m, h, hb => by
    have h1 := hb s (by simp)
    have ih := asc_len l (spc s + 1) m (List.pairwise_cons.mp h).2 fun t ht => ⟨(List.pairwise_cons.mp h).1 t ht, (hb t (by simp [ht])).2⟩
    rw [List.length_cons]
    omega
theorem Fine.spc {box bound : Nat} {ss : List Step} (f : Fine box bound ss) : ∀ s ∈ ss, 1 ≤ LT.spc s ∧ LT.spc s ≤ 2 * box := fun s hs => by
  obtain ⟨h1, h2, _⟩ := f.st s hs
  obtain ⟨b, p, w⟩ := s
  unfold LT.spc bitB
  cases b with
  | false =>
    have := h1 rfl
    simp at this ⊢
    omega
  | true =>
    have := h2 rfl
    simp at this ⊢
    omega
theorem Fine.few {box bound : Nat} {ss : List Step} (f : Fine box bound ss) : ss.length ≤ 120 := by
  have b := f.b2
  have := asc_len ss 1 121 f.asc fun s hs => by
    have := f.spc s hs
    omega
  omega
theorem nm_len {n : Nat} (h : n < 10 ^ 20) : (nm n).length ≤ 20 := TL.numL_len (by decide) h
theorem line_len {s : Step} (h1 : s.2.1 < 10 ^ 20) (h2 : s.2.2 < 10 ^ 20) : (lineL s).length ≤ 48 := by
  unfold lineL
  have a := nm_len h1
  have b := nm_len h2
  have c : (wordL s.1).length ≤ 6 := by cases s.1 <;> decide
  simp
  omega
theorem line_ok (s : Step) : Ok (lineL s) ∧ 10 ∉ lineL s := by
  have dg : ∀ n c, c ∈ nm n → 48 ≤ c ∧ c ≤ 57 := fun n c hc => TL.numL_digits n c hc
  have wd : ∀ c ∈ wordL s.1, 97 ≤ c ∧ c ≤ 122 := by cases s.1 <;> decide
  have all : ∀ c ∈ lineL s, 32 ≤ c ∧ c ≤ 122 := fun c hc => by
    unfold lineL at hc
    simp only [List.mem_append, List.mem_cons] at hc
    rcases hc with h | h | h | h | h
    · have := wd c h; omega
    · omega
    · have := dg _ c h; omega
    · omega
    · have := dg _ c h; omega
  exact ⟨fun c hc => by have := all c hc; omega, fun hc => by have := all 10 hc; omega⟩
theorem head_ok (w : List Nat) (n : Nat) (hw : ∀ c ∈ w, 97 ≤ c ∧ c ≤ 122) : Ok (w ++ 32 :: nm n) ∧ 10 ∉ w ++ 32 :: nm n := by
  have all : ∀ c ∈ w ++ 32 :: nm n, 32 ≤ c ∧ c ≤ 122 := fun c hc => by
    simp only [List.mem_append, List.mem_cons] at hc
    rcases hc with h | h | h
    · have := hw c h; omega
    · omega
    · have := TL.numL_digits n c h; omega
  exact ⟨fun c hc => by have := all c hc; omega, fun hc => by have := all 10 hc; omega⟩
theorem joinL_mem (sep : List Nat) : ∀ (ps : List (List Nat)) (c : Nat), c ∈ TL.joinL sep ps → c ∈ sep ∨ ∃ p ∈ ps, c ∈ p
  | [], c, h => by simp [TL.joinL] at h
  | [p], c, h => .inr ⟨p, by simp, h⟩
  | p :: q :: r, c, h => by
    have h' : c ∈ p ++ (sep ++ TL.joinL sep (q :: r)) := h
    simp only [List.mem_append] at h'
    rcases h' with h' | h' | h'
    · exact .inr ⟨p, by simp, h'⟩
    · exact .inl h'
    · rcases joinL_mem sep (q :: r) c h' with z | ⟨x, hx, hc⟩
      · exact .inl z
      · exact .inr ⟨x, List.mem_cons_of_mem _ hx, hc⟩
theorem joinL_len (sep : List Nat) (m : Nat) (hs : sep.length ≤ 1) : ∀ (ps : List (List Nat)), (∀ p ∈ ps, p.length ≤ m) → (TL.joinL sep ps).length ≤ ps.length * (m + 1)
  | [], _ => by simp [TL.joinL]
  | [p], h => by
    have := h p (by simp)
    show p.length ≤ _
    simp
    omega
  | p :: q :: r, h => by
    have ih := joinL_len sep m hs (q :: r) fun x hx => h x (List.mem_cons_of_mem _ hx)
    have hp := h p (by simp)
    show (p ++ (sep ++ TL.joinL sep (q :: r))).length ≤ _
    rw [List.length_append, List.length_append, List.length_cons, Nat.add_mul]
    omega
theorem told_text {box bound : Nat} {ss : List Step} (f : Fine box bound ss) : Told (textL box bound ss) box bound ss := by
  have hb := head_ok wBox box (by decide)
  have hd := head_ok wBound bound (by decide)
  have mem : ∀ p ∈ headL box bound ++ ss.map lineL, Ok p ∧ 10 ∉ p := fun p hp => by
    rcases List.mem_append.mp hp with h | h
    · simp only [headL, List.mem_cons, List.not_mem_nil, or_false] at h
      rcases h with rfl | rfl
      · exact hb
      · exact hd
    · obtain ⟨s, _, rfl⟩ := List.mem_map.mp h
      exact line_ok s
  have lens : ∀ p ∈ headL box bound ++ ss.map lineL, p.length ≤ 48 := fun p hp => by
    rcases List.mem_append.mp hp with h | h
    · simp only [headL, List.mem_cons, List.not_mem_nil, or_false] at h
      have f2 := f.b2
      have f4 := f.d2
      have l1 := nm_len (n := box) (by omega)
      have l2 := nm_len (n := bound) (by omega)
      rcases h with rfl | rfl
      · simp; omega
      · simp; omega
    · obtain ⟨s, hs, rfl⟩ := List.mem_map.mp h
      obtain ⟨h1, h2, h3⟩ := f.st s hs
      have f2 := f.b2
      refine line_len ?_ (by omega)
      cases hb : s.1 with
      | false =>
        have := h1 hb
        omega
      | true =>
        have := h2 hb
        omega
  have ne : headL box bound ++ ss.map lineL ≠ [] := by simp [headL]
  have few := f.few
  refine ⟨fun c hc => ?_, ?_, ⟨_, _, ss.map lineL, (TL.spl_join ne fun p hp => (mem p hp).2 : TL.spl [10] 0 [] (TL.joinL [10] (headL box bound ++ ss.map lineL)) = _), fun x hx => Nat.le_trans (lens x hx) (by decide), numIn_box f.b1 f.b2, numIn_bound f.d1 f.d2, ?_⟩, fun s hs => ?_, f.asc, by omega⟩
  · rcases joinL_mem [10] _ c hc with z | ⟨p, hp, z⟩
    · rw [List.mem_singleton.mp z]; decide
    · exact (mem p hp).1 c z
  · have := joinL_len [10] 48 (by decide) _ lens
    unfold textL
    rw [List.length_append, List.length_map] at this
    have hl : (headL box bound).length = 2 := rfl
    omega
  · rw [List.map_map]
    exact List.map_congr_left fun s hs => stepIn_line (f.st s hs)
  · obtain ⟨h1, h2, _⟩ := f.st s hs
    have f2 := f.b2
    cases hb : s.1 with
    | false =>
      have := h1 hb
      omega
    | true =>
      have := h2 hb
      omega
/-- Rule(the text) -/
theorem m_new {k : Nat} {h : Hs} {box bound : Nat} {ss : List Step} (f : Fine box bound ss) : callD U (k + 5) 28 [.str (T (textL box bound ss))] h = .ok (ruleV (textL box bound ss) box bound ss) h := m_rule (told_text f) f.b2
/-! ### text_by -/
theorem j_step {cf : Nat → List Val → Hs → Out Val} {env : Pyi.Env} {h : Hs} {e : E} {es : List E} {acc y : List Nat} {x : Val} (he : evE cf e env h = .ok x h) (hw : strW x = some (T y)) (hl : acc.length + y.length ≤ most) : evJ cf (e :: es) (T acc) env h = evJ cf es (T (acc ++ y)) env h := by
  rw [jj_cons, he]
  show (ofOpt (strW x) h).bind _ = _
  rw [hw]
  show (if (T acc).length + (T y).length ≤ most then evJ cf es (T acc ++ T y) env h else .bad) = _
  rw [len_S, len_S, if_pos hl, SX.S_cat]
theorem big_nat {n : Nat} (h : n < 10 ^ 20) : n < 2 ^ 1900 := Nat.lt_of_lt_of_le h (by decide +kernel)
end LT
set_option Elab.async false
set_option linter.all false
set_option maxRecDepth 100000
set_option maxHeartbeats 2000000
namespace LT
open PySem Pyi
/-! ### worths of sizes and lots -/
/-- the space in which a number lies -/
def spR (q : Rat) : Nat := 2 * (q.num.toNat / q.den) + bitB (decide (0 < q.num.toNat % q.den))
theorem m_space {k : Nat} {h : Hs} {q : Rat} {n : Nat} (hq : Q n q) (hn : n ≤ 1300) : callD U (k + 1) 48 [rv q] h = .ok (.int (spR q)) h := by
  rw [call_eq (d := d48) rfl rfl]
  obtain ⟨a, ea⟩ := Int.eq_ofNat_of_zero_le hq.nn
  have dp : (0 : Int) < (q.den : Int) := by have := q.den_pos; omega
  have d9_ := den9 (Nat.lt_of_lt_of_le hq.de (Nat.pow_le_pow_right (by decide) hn))
  have s2 : sm 2 = true := by decide +kernel
  have e : rv q = .tup [.int (a : Int), .int q.den] := by unfold rv; rw [ea]
  have et : q.num.toNat = a := by rw [ea]; rfl
  have hmod : ((a : Int) % (q.den : Int)) = ((a % q.den : Nat) : Int) := by omega
  have an : a < 2 ^ n := by
    have := hq.nu
    rw [ea, ← pw] at this
    exact Int.ofNat_lt.mp this
  have sq : sm ((a : Int) / (q.den : Int)) = true := by
    refine sm_of ?_
    rw [← Int.natCast_ediv, Int.natAbs_natCast]
    exact Nat.lt_of_le_of_lt (Nat.div_le_self _ _) (Nat.lt_of_lt_of_le an (Nat.pow_le_pow_right (by decide) (by omega)))
  unfold spR
  rw [et]
  clear et an
  have d9 := d9_
  by_cases hm : 0 < a % q.den
  · have hm' : (0 : Int) < (a : Int) % (q.den : Int) := by rw [hmod]; omega
    simp [d48, start_eq, e, b_fdiv dp d9, b_mod dp, b_mul s2 sq, hm, hm', bitB]
  · have hm0 : a % q.den = 0 := by omega
    have hm' : ¬ (0 : Int) < (a : Int) % (q.den : Int) := by rw [hmod, hm0]; decide
    simp [d48, start_eq, e, b_fdiv dp d9, b_mod dp, b_mul s2 sq, hm0, hm', bitB]
/-- a size no greater than a box -/
structure Sz (n box : Nat) (q : Rat) : Prop where
  qq : Q n q
  pos : 0 < q.num
  le : q.num ≤ (box : Int) * q.den
theorem spR_le {n box : Nat} {q : Rat} (z : Sz n box q) : spR q ≤ 2 * box := by
  obtain ⟨a, ea⟩ := Int.eq_ofNat_of_zero_le z.qq.nn
  have le := z.le
  rw [ea] at le
  have le : a ≤ box * q.den := by
    have e : (((box * q.den : Nat)) : Int) = (box : Int) * q.den := Int.natCast_mul _ _
    rw [← e] at le
    exact Int.ofNat_le.mp le
  unfold spR
  rw [ea]
  show 2 * (a / q.den) + bitB (decide (0 < a % q.den)) ≤ 2 * box
  have dp := q.den_pos
  have h1 : a / q.den ≤ box := Nat.div_le_of_le_mul (by rw [Nat.mul_comm]; exact le)
  unfold bitB
  by_cases hm : 0 < a % q.den
  · have h2 : a / q.den < box := by
      refine Nat.div_lt_of_lt_mul ?_
      rw [Nat.mul_comm]
      have h3 := Nat.div_add_mod a q.den
      rcases Nat.lt_or_eq_of_le le with h | h
      · exact h
      · rw [h, Nat.mul_mod_left] at hm
        cases hm
    rw [decide_eq_true hm]
    simp
    omega
  · rw [decide_eq_false hm]
    simp
    omega
theorem m_isSize {k : Nat} {h : Hs} {q : Rat} {n box : Nat} (z : Sz n box q) (hn : n ≤ 1300) (hb : box ≤ 1000) : callD U (k + 3) 5 [rv q, .int box] h = .ok (.bl true) h := by
  rw [call_eq (d := d5) rfl rfl]
  have nm := m_isnum (k := k) (h := h) z.qq hn
  have sb : sm (box : Int) = true := sm_of (by rw [Int.natAbs_natCast]; exact Nat.lt_of_le_of_lt hb (by decide +kernel))
  have np := z.pos
  have le := z.le
  have e : rv q = .tup [.int q.num, .int q.den] := rfl
  rw [e] at nm ⊢
  simp [d5, start_eq, nm, np, le, b_mul sb (z.qq.sd.sm (by omega))]
theorem worth_get {h : Hs} {box : Nat} {ss : List Step} {s : Nat} (hs : s ≤ 2 * box) : getH h (worthsV box ss) (.int s) = some (.int (wAt ss s)) := by
  show atI _ (s : Int) = _
  rw [at_n (by rw [List.length_map, List.length_range]; omega), List.getElem?_map, List.getElem?_range (by omega)]
  rfl
theorem fldL_hit {x : Str} {ns : List Str} {v : Val} {vs : List Val} : fldL (x :: ns) (v :: vs) x = some v := if_pos rfl
theorem fldL_skip {n x : Str} {ns : List Str} {v : Val} {vs : List Val} (hn : n ≠ x) : fldL (n :: ns) (v :: vs) x = fldL ns vs x := if_neg hn
section
variable {l : List Nat} {box bound : Nat} {ss : List Step}
theorem fld_text : fldV (ruleV l box bound ss) "own_text" = some (.str (T l)) := fldL_hit
theorem fld_box : fldV (ruleV l box bound ss) "own_box" = some (.int box) := (fldL_skip (by decide +kernel)).trans fldL_hit
theorem fld_bound : fldV (ruleV l box bound ss) "own_bound" = some (.int bound) := (fldL_skip (by decide +kernel)).trans ((fldL_skip (by decide +kernel)).trans fldL_hit)
theorem fld_steps : fldV (ruleV l box bound ss) "own_steps" = some (.tup (ss.map stepV)) := (fldL_skip (by decide +kernel)).trans ((fldL_skip (by decide +kernel)).trans ((fldL_skip (by decide +kernel)).trans fldL_hit))
theorem fld_worths : fldV (ruleV l box bound ss) "own_worths" = some (worthsV box ss) := (fldL_skip (by decide +kernel)).trans ((fldL_skip (by decide +kernel)).trans ((fldL_skip (by decide +kernel)).trans ((fldL_skip (by decide +kernel)).trans fldL_hit)))
end
section
variable {k : Nat} {h : Hs} {l : List Nat} {box bound : Nat} {ss : List Step}
theorem m_worth {q : Rat} {n : Nat} (z : Sz n box q) (hn : n ≤ 1300) (hb : box ≤ 1000) : callD U (k + 5) 47 [ruleV l box bound ss, rv q] h = .ok (.int (wAt ss (spR q))) h := by
  rw [callD_disp (g := 57) (c := 0) rfl rfl rfl, call_eq (d := d57) rfl rfl]
  have e1 := m_isSize (k := k) (h := h) z hn hb
  have e2 := m_space (k := k + 2) (h := h) z.qq hn
  have e3 := worth_get (h := h) (box := box) (ss := ss) (spR_le z)
  simp [d57, start_eq, fld_box, fld_worths, e1, e2, e3]
end
/-! ### lots within a box -/
structure GB (n box : Nat) (p : Thing) : Prop where
  gi : GI n p
  le : p.1.num ≤ (box : Int) * p.1.den
theorem GB.sz {n box : Nat} {p : Thing} (g : GB n box p) : Sz n box p.1 := ⟨g.gi.q, g.gi.pos, g.le⟩
theorem m_ispartB {k : Nat} {h : Hs} {p : Thing} {B box : Nat} (g : GB B box p) (hB : B ≤ 1300) (hb : box ≤ 1000) : callD U (k + 4) 8 [itV p, .int box] h = .ok (.bl true) h := by
  rw [call_eq (d := d8) rfl rfl]
  have m1 : (1 : Int) ≤ (p.2 : Int) := by have := g.gi.m0; omega
  have nm := m_isnum (k := k + 1) (h := h) g.gi.q hB
  have sz := m_isSize (k := k) (h := h) g.sz hB hb
  have t2 := m_istup2 (k := k + 2) (h := h) (a := rv p.1) (b := .int p.2)
  have i1 := m_isint (k := k + 2) (h := h) (i := p.2) (lo := 1)
  have e0 : getH h (.tup [rv p.1, .int p.2]) (.int 0) = some (rv p.1) := rfl
  have e1 : getH h (.tup [rv p.1, .int p.2]) (.int 1) = some (.int p.2) := rfl
  simp [d8, start_eq, itV, t2, i1, m1, nm, sz, e0, e1]
theorem m_islotB {k : Nat} {h : Hs} {l : List Thing} {B box : Nat} (g : ∀ p ∈ l, GB B box p) (hB : B ≤ 1300) (hb : box ≤ 1000) (hl : l.length ≤ 1300) (nd : (l.map (·.1)).Nodup) : callD U (k + 5) 9 [lotV l, .int box] h = .ok (.bl true) h := by
  rw [call_eq (d := d9) rfl rfl]
  have ml : l.length ≤ most := Nat.le_trans hl (by decide)
  have a1 := mapF_map (h := h) (i := itV) (f := fun _ => Val.bl true) (g := turnC (callD U (k + 4)) [some (.v (lotV l)), some (.v (.int box)), none, none, none] (.v 2) [] (.call 8 [.var 2, .var 1] [])) l (fun p hp => by
    simp [turnC_eq, m_ispartB (g p hp) hB hb])
  have a2 := mapF_map (h := h) (i := itV) (f := fun p => rv p.1) (g := turnD (callD U (k + 4)) [some (.v (lotV l)), some (.v (.int box)), none, none, none] (.t [.v 3, .v 4]) (.var 3)) l (fun p hp => by
    have kt : keyT (rv p.1) = true := rfl
    simp [turnD_eq, itV, kt])
  have fl := firstKs_nd (l.map (fun p : Thing => p.1)) [] nd
  rw [List.map_nil, List.map_map, List.length_map, List.length_nil, Nat.zero_add] at fl
  have fl' : (firstKs [] (l.map fun p => rv p.1)).length = l.length := fl
  have al : allV (.lst (l.map fun _ => Val.bl true)) = some (.bl true) := by
    show (boolsOf (l.map fun _ => Val.bl true)).map _ = _
    rw [bools_rep]
    simp
  have e : lotV l = .tup (l.map itV) := rfl
  have e1 := e ▸ a1
  have e2 := e ▸ a2
  simp [d9, start_eq, e, m_istup0, e1, e2, al, ml, fl']
theorem m_checkB {k : Nat} {h : Hs} {l : List Thing} {B box : Nat} (g : ∀ p ∈ l, GB B box p) (hB : B ≤ 1300) (hb : box ≤ 1000) (hl : l.length ≤ 1300) (nd : (l.map (·.1)).Nodup) : callD U (k + 6) 10 [lotV l, .int box] h = .ok .non h := by
  rw [call_eq (d := d10) rfl rfl]
  simp [d10, start_eq, m_islotB g hB hb hl nd]
theorem ints_map {α : Type} (f : α → Int) : ∀ (l : List α), intsOf (l.map fun x => Val.int (f x)) = some (l.map f)
  | [] => rfl
  | x :: l => by
    show (intsOf (l.map fun x => Val.int (f x))).map (f x :: ·) = _
    rw [ints_map f l]
    rfl
/-- all worths of a lot together -/
def reck (ss : List Step) (l : List Thing) : Nat := (l.map fun p => p.2 * wAt ss (spR p.1)).sum
theorem sum_cast (l : List Nat) : (l.map fun (n : Nat) => (n : Int)).sum = ((l.sum : Nat) : Int) := by
  induction l with
  | nil => rfl
  | cons a l ih => rw [List.map_cons, List.sum_cons, List.sum_cons, ih, Int.natCast_add]
theorem m_reck {k : Nat} {h : Hs} {tx : List Nat} {l : List Thing} {box bound B : Nat} {ss : List Step} (g : ∀ p ∈ l, GB B box p) (hB : B ≤ 1300) (hb : box ≤ 1000) (hl : l.length ≤ 1300) (nd : (l.map (·.1)).Nodup) (hw : ∀ s, wAt ss s < 2 ^ 100) : callD U (k + 8) 49 [ruleV tx box bound ss, lotV l] h = .ok (.int (reck ss l)) h := by
  rw [callD_disp (g := 58) (c := 0) rfl rfl rfl, call_eq (d := d58) rfl rfl]
  have ml : l.length ≤ most := Nat.le_trans hl (by decide)
  have ck := m_checkB (k := k) (h := h) g hB hb hl nd
  have a1 := mapF_map (h := h) (i := itV) (f := fun p => Val.int ((p.2 * wAt ss (spR p.1) : Nat) : Int)) (g := turnC (callD U (k + 6)) [some (.v (ruleV tx box bound ss)), some (.v (lotV l)), none, none] (.t [.v 2, .v 3]) [] (.bin .mul (.var 3) (.idx (.fld (.var 0) "own_worths") (.call 48 [.var 2] [])))) l (fun p hp => by
    have z := (g p hp).sz
    have e2 := m_space (k := k + 5) (h := h) z.qq hB
    have e3 := worth_get (h := h) (box := box) (ss := ss) (spR_le z)
    have s1 := (g p hp).gi.sm_m.sm (by omega)
    have s2 : sm (wAt ss (spR p.1) : Int) = true := sm_of (by rw [Int.natAbs_natCast]; exact Nat.lt_of_lt_of_le (hw _) (Nat.pow_le_pow_right (by decide) (by decide)))
    simp [turnC_eq, itV, fld_worths, e2, e3, b_mul s1 s2])
  have sv : sumV (.lst (l.map fun p => Val.int ((p.2 * wAt ss (spR p.1) : Nat) : Int))) = some (.int (reck ss l)) := by
    show (intsOf (l.map fun p => Val.int ((fun p : Thing => ((p.2 * wAt ss (spR p.1) : Nat) : Int)) p))).map _ = _
    rw [ints_map]
    show some (Val.int (l.map fun p => ((p.2 * wAt ss (spR p.1) : Nat) : Int)).sum) = _
    unfold reck
    rw [← sum_cast, List.map_map]
    rfl
  have e : lotV l = .tup (l.map itV) := rfl
  have st : evSs (callD U (k + 6)) d58.body (startE d58.n [ruleV tx box bound ss, lotV l]) h = .ok (.ret (.int (reck ss l))) [some (.v (ruleV tx box bound ss)), some (.v (lotV l)), none, none] h := by
    have w1 : walksOf (lotV l) = some (l.map itV) := rfl
    generalize hV : ruleV tx box bound ss = V at *
    have fb : fldV V "own_box" = some (.int box) := by rw [← hV]; exact fld_box
    generalize lotV l = L at *
    have sv' : sumV (.lst (l.map fun p => Val.int ((p.2 : Int) * (wAt ss (spR p.1) : Int)))) = some (.int (reck ss l)) := by simpa only [Int.natCast_mul] using sv
    simp [d58, start_eq, fb, ck, w1, a1, ml, sv']
  rw [st]
  rfl
theorem m_boxes {k : Nat} {h : Hs} {tx : List Nat} {l : List Thing} {box bound B : Nat} {ss : List Step} (g : ∀ p ∈ l, GB B box p) (hB : B ≤ 1300) (hb : box ≤ 1000) (hl : l.length ≤ 1300) (nd : (l.map (·.1)).Nodup) (hw : ∀ s, wAt ss s < 2 ^ 100) (h0 : 0 < bound) (h1 : bound < 2 ^ 1300) : callD U (k + 10) 50 [ruleV tx box bound ss, lotV l] h = .ok (.int (-((-(reck ss l : Int)) / bound))) h := by
  rw [callD_disp (g := 59) (c := 0) rfl rfl rfl, call_eq (d := d59) rfl rfl]
  have e1 := m_reck (k := k) (h := h) (tx := tx) (bound := bound) g hB hb hl nd hw
  have b0 : (0 : Int) < (bound : Int) := by omega
  generalize hV : ruleV tx box bound ss = V at *
  have fb : fldV V "own_bound" = some (.int bound) := by rw [← hV]; exact fld_bound
  simp [d59, start_eq, fb, e1, b_fdiv b0 (den9 h1)]
theorem wAt_bound {ss : List Step} {m : Nat} (h : ∀ s ∈ ss, s.2.2 < m) (h0 : 0 < m) : ∀ n, wAt ss n < m
  | 0 => h0
  | n + 1 => by
    unfold wAt
    cases e : ss.find? fun t => spc t == n + 1 with
    | none => exact wAt_bound h h0 n
    | some t => exact h t (List.mem_of_find?_eq_some e)
end LT
set_option Elab.async false
set_option linter.all false
set_option maxRecDepth 100000
set_option maxHeartbeats 2000000
namespace LT
open PySem Pyi
/-! ### rules made of rules -/
theorem Fine.sub {box bound : Nat} {ss ts : List Step} (f : Fine box bound ss) (h : ts.Sublist ss) : Fine box bound ts := ⟨f.b1, f.b2, f.d1, f.d2, fun s hs => f.st s (h.subset hs), List.Pairwise.sublist h f.asc⟩
def plainA : Nat → List Step → List Step
  | _, [] => []
  | w, s :: r => if s.2.2 = w then plainA w r else s :: plainA s.2.2 r
def plainS (ss : List Step) : List Step := plainA 0 ss
theorem plainA_sub : ∀ (ss : List Step) (w : Nat), (plainA w ss).Sublist ss
  | [], _ => List.Sublist.refl _
  | s :: r, w => by
    unfold plainA
    split
    · exact (plainA_sub r w).cons s
    · exact (plainA_sub r s.2.2).cons_cons s
theorem plainS_sub (ss : List Step) : (plainS ss).Sublist ss := plainA_sub ss 0
theorem Fine.bits {box bound : Nat} {ss : List Step} (f : Fine box bound ss) : ∀ s ∈ ss, s.2.1 < 10 ^ 20 ∧ s.2.2 < 10 ^ 20 := fun s hs => by
  obtain ⟨h1, h2, h3⟩ := f.st s hs
  have b2 := f.b2
  refine ⟨?_, by omega⟩
  cases hb : s.1 with
  | false =>
    have := h1 hb
    omega
  | true =>
    have := h2 hb
    omega
theorem at_m1 {x y z : Val} : atI [x, y, z] (-1) = some z := rfl
theorem plain_loop {cf : Nat → List Val → Hs → Out Val} {h : Hs} {a0 : Option Slot} : ∀ (ss : List Step) (w : Nat) (ds : List Step) (s1 : Option Slot), ds.length + ss.length ≤ 1000 → ∃ t1 t3, loopF (turnF cf (.v 1) [.if_ (.cmp .ne (.idx (.var 1) (.neg (.lit (.int 1)))) (.var 3)) [.app 2 (.var 1), .set 3 (.idx (.var 1) (.neg (.lit (.int 1))))] []]) (ss.map stepV)
      [a0, s1, some (.own (ds.map stepV)), some (.v (.int w))] h = .ok .nxt [a0, t1, some (.own ((ds ++ plainA w ss).map stepV)), t3] h
  | [], w, ds, s1, _ => ⟨s1, some (.v (.int w)), by simp [plainA]⟩
  | s :: ss, w, ds, s1, hl => by
    rw [List.length_cons] at hl
    have hm : ds.length ≤ most := Nat.le_trans (show ds.length ≤ 1000 by omega) (by decide)
    obtain ⟨sb, sp, sv⟩ := s
    by_cases hw : sv = w
    · subst hw
      obtain ⟨t1, t3, ih⟩ := plain_loop (cf := cf) (h := h) (a0 := a0) ss sv ds (some (.v (stepV (sb, sp, sv)))) (by omega)
      refine ⟨t1, t3, ?_⟩
      have e : plainA sv ((sb, sp, sv) :: ss) = plainA sv ss := by
        show (if sv = sv then _ else _) = _
        rw [if_pos rfl]
      rw [e, ← ih, List.map_cons, lf_cons]
      have tn : turnF cf (.v 1) [.if_ (.cmp .ne (.idx (.var 1) (.neg (.lit (.int 1)))) (.var 3)) [.app 2 (.var 1), .set 3 (.idx (.var 1) (.neg (.lit (.int 1))))] []] (stepV (sb, sp, sv)) [a0, s1, some (.own (ds.map stepV)), some (.v (.int sv))] h = .ok .nxt [a0, some (.v (stepV (sb, sp, sv))), some (.own (ds.map stepV)), some (.v (.int sv))] h := by
        simp [turnF_eq, stepV, at_m1]
      rw [tn]
      rfl
    · obtain ⟨t1, t3, ih⟩ := plain_loop (cf := cf) (h := h) (a0 := a0) ss sv (ds ++ [(sb, sp, sv)]) (some (.v (stepV (sb, sp, sv)))) (by simp; omega)
      refine ⟨t1, t3, ?_⟩
      have e : ds ++ plainA w ((sb, sp, sv) :: ss) = (ds ++ [(sb, sp, sv)]) ++ plainA sv ss := by
        show ds ++ (if sv = w then _ else _) = _
        rw [if_neg hw]
        simp
      rw [e, ← ih, List.map_cons, lf_cons]
      have hw' : ¬ (sv : Int) = (w : Int) := by omega
      have tn : turnF cf (.v 1) [.if_ (.cmp .ne (.idx (.var 1) (.neg (.lit (.int 1)))) (.var 3)) [.app 2 (.var 1), .set 3 (.idx (.var 1) (.neg (.lit (.int 1))))] []] (stepV (sb, sp, sv)) [a0, s1, some (.own (ds.map stepV)), some (.v (.int w))] h = .ok .nxt [a0, some (.v (stepV (sb, sp, sv))), some (.own ((ds ++ [(sb, sp, sv)]).map stepV)), some (.v (.int sv))] h := by
        simp [turnF_eq, stepV, at_m1, hw', hm]
      rw [tn]
      rfl
theorem m_isint2 {k : Nat} {h : Hs} {i lo hi : Int} : callD U (k + 1) 0 [.int i, .int lo, .int hi] h = .ok (.bl (decide (lo ≤ i) && decide (i ≤ hi))) h := by
  rw [call_eq (d := d0) rfl rfl]
  by_cases hl : lo ≤ i <;> by_cases hh : i ≤ hi <;> simp [d0, start_eq, hl, hh]
/-! == -/
theorem same_rule {ta tb : List Nat} {b1 d1 b2 d2 : Nat} {s1 s2 : List Step} : sameC (ruleV ta b1 d1 s1) (ruleV tb b2 d2 s2) = some () := rfl
theorem sm_le {i : Int} (h : i.natAbs < 1024) : sm i = true := sm_of (Nat.lt_of_lt_of_le (show i.natAbs < 2 ^ 10 from h) (Nat.pow_le_pow_right (by decide) (by decide)))
theorem rg_le {i : Int} (h : i.natAbs < 1024) : rgOk i = true := by
  unfold rgOk
  rw [Bool.and_eq_true, decide_eq_true_eq, decide_eq_true_eq]
  omega
end LT
set_option Elab.async false
set_option linter.all false
set_option maxRecDepth 100000
set_option maxHeartbeats 2000000
namespace LT
open PySem Pyi
/-! rounding -/
def roundS (n : Nat) : List Step := (List.range n).flatMap fun i => [(false, i + 1, (i + 1) * n), (true, i + 1, (i + 1) * (n + 1))]
theorem roundS_asc (n : Nat) : ∀ m, Asc ((List.range m).flatMap fun i => ([(false, i + 1, (i + 1) * n), (true, i + 1, (i + 1) * (n + 1))] : List Step)) ∧ ∀ s ∈ ((List.range m).flatMap fun i => ([(false, i + 1, (i + 1) * n), (true, i + 1, (i + 1) * (n + 1))] : List Step)), spc s ≤ 2 * m + 1
  | 0 => ⟨List.Pairwise.nil, fun s hs => by simp at hs⟩
  | m + 1 => by
    obtain ⟨h1, h2⟩ := roundS_asc n m
    rw [List.range_succ, List.flatMap_append]
    refine ⟨List.pairwise_append.mpr ⟨h1, ?_, fun a ha b hb => ?_⟩, fun s hs => ?_⟩
    · simp [spc, bitB]
    · have := h2 a ha
      simp [spc, bitB] at hb
      rcases hb with rfl | rfl
      · show spc a < 2 * (m + 1) + 0
        omega
      · show spc a < 2 * (m + 1) + 1
        omega
    · rcases List.mem_append.mp hs with hs | hs
      · have := h2 s hs
        omega
      · simp at hs
        rcases hs with rfl | rfl
        · show 2 * (m + 1) + 0 ≤ _
          omega
        · show 2 * (m + 1) + 1 ≤ _
          omega
theorem round_mem {n : Nat} {s : Step} (h : s ∈ roundS n) : 1 ≤ s.2.1 ∧ s.2.1 ≤ n ∧ s.2.2 ≤ n * (n + 1) := by
  obtain ⟨i, hi, hs⟩ := List.mem_flatMap.mp h
  have hi := List.mem_range.mp hi
  have l1 : (i + 1) * n ≤ n * n := Nat.mul_le_mul_right n hi
  have l2 : (i + 1) * (n + 1) ≤ n * (n + 1) := Nat.mul_le_mul_right (n + 1) hi
  have l3 : n * n ≤ n * (n + 1) := Nat.mul_le_mul_left n (Nat.le_succ n)
  simp only [List.mem_cons, List.not_mem_nil, or_false] at hs
  rcases hs with rfl | rfl
  · exact ⟨Nat.succ_le_succ (Nat.zero_le _), hi, Nat.le_trans l1 l3⟩
  · exact ⟨Nat.succ_le_succ (Nat.zero_le _), hi, l2⟩
theorem round_fine {n : Nat} (h1 : 1 ≤ n) (h2 : n ≤ 40) : Fine (n + 1) (n * (n + 1)) (roundS n) := by
  have b : n * (n + 1) ≤ 40 * 41 := Nat.mul_le_mul h2 (by omega)
  have p : 1 * 1 ≤ n * (n + 1) := Nat.mul_le_mul h1 (by omega)
  refine ⟨by omega, by omega, by omega, by omega, fun s hs => ?_, (roundS_asc n n).1⟩
  obtain ⟨q1, q2, q3⟩ := round_mem hs
  exact ⟨fun _ => ⟨q1, by omega⟩, fun _ => by omega, by omega⟩
theorem round_loop {cf : Nat → List Val → Hs → Out Val} {h : Hs} {n : Nat} (hn : n ≤ 40) : ∀ (m i : Nat) (s2 : Option Slot), i + m = n → ∃ t2, loopF (turnF cf (.v 2) [.ext 1 (.lst [.tup [.glb "FROM" (.str "from"), .var 2, .bin .mul (.var 2) (.var 0)], .tup [.glb "BEYOND" (.str "beyond"), .var 2, .bin .mul (.var 2) (.bin .add (.var 0) (.lit (.int 1)))]])]) (rngV ((i : Int) + 1) m)
      [some (.v (.int n)), some (.own (((List.range i).flatMap fun i => ([(false, i + 1, (i + 1) * n), (true, i + 1, (i + 1) * (n + 1))] : List Step)).map stepV)), s2] h = .ok .nxt [some (.v (.int n)), some (.own ((roundS n).map stepV)), t2] h
  | 0, i, s2, e => ⟨s2, by
    have : i = n := by omega
    subst this
    rfl⟩
  | m + 1, i, s2, e => by
    obtain ⟨t2, ih⟩ := round_loop (cf := cf) (h := h) hn m (i + 1) (some (.v (.int ((i : Int) + 1)))) (by omega)
    refine ⟨t2, ?_⟩
    have c1 : (((i + 1 : Nat) : Int) + 1) = (i : Int) + 1 + 1 := by omega
    rw [← ih, c1]
    show loopF _ (.int ((i : Int) + 1) :: rngV ((i : Int) + 1 + 1) m) _ h = _
    rw [lf_cons]
    have s1 : sm ((i : Int) + 1) = true := sm_le (by omega)
    have s3 : sm (n : Int) = true := sm_le (by omega)
    have s4 : sm ((n : Int) + 1) = true := sm_le (by omega)
    have hl : ∀ j, ((List.range j).flatMap fun i => ([(false, i + 1, (i + 1) * n), (true, i + 1, (i + 1) * (n + 1))] : List Step)).length = 2 * j := fun j => by
      induction j with
      | zero => rfl
      | succ j ih => rw [List.range_succ, List.flatMap_append, List.length_append, ih]; rfl
    have hm : ((List.range i).flatMap fun i => ([(false, i + 1, (i + 1) * n), (true, i + 1, (i + 1) * (n + 1))] : List Step)).length + 1 + 1 ≤ most := by
      rw [hl]
      exact Nat.le_trans (show 2 * i + 1 + 1 ≤ 1000 by omega) (by decide)
    have e2 : ((List.range (i + 1)).flatMap fun i => ([(false, i + 1, (i + 1) * n), (true, i + 1, (i + 1) * (n + 1))] : List Step)).map stepV = ((List.range i).flatMap fun i => ([(false, i + 1, (i + 1) * n), (true, i + 1, (i + 1) * (n + 1))] : List Step)).map stepV ++ [.tup [.str (T wFrom), .int ((i : Int) + 1), .int (((i : Int) + 1) * n)], .tup [.str (T wBeyond), .int ((i : Int) + 1), .int (((i : Int) + 1) * (n + 1))]] := by
      rw [List.range_succ, List.flatMap_append, List.map_append]
      congr 1
    rw [e2]
    have hm' : (((List.range i).flatMap fun i => ([(false, i + 1, (i + 1) * n), (true, i + 1, (i + 1) * (n + 1))] : List Step)).map stepV).length + 1 + 1 ≤ most := by rw [List.length_map]; exact hm
    generalize ((List.range i).flatMap fun i => ([(false, i + 1, (i + 1) * n), (true, i + 1, (i + 1) * (n + 1))] : List Step)).map stepV = L at hm' ⊢
    simp [turnF_eq, t_from, t_beyond, b_mul s1 s3, b_mul s1 s4, hm']
theorem for_ok {cf : Nat → List Val → Hs → Out Val} {tg : Tg} {it : It} {b : List S} {env : Pyi.Env} {h h' : Hs} {xs : List Val} (e : evIt cf it env h = .ok xs h') : evS cf (.for_ tg it b) env h = loopF (turnF cf tg b) xs env h' := by
  rw [s_for_, e]
  rfl
theorem i_rng2_ok {cf : Nat → List Val → Hs → Out Val} {a b : E} {env : Pyi.Env} {h : Hs} {i j : Int} {n : Nat} (ea : evE cf a env h = .ok (.int i) h) (eb : evE cf b env h = .ok (.int j) h) (ri : rgOk i = true) (rj : rgOk j = true) (e : (j - i).toNat = n) : evIt cf (.rng2 a b) env h = .ok (rngV i n) h := by
  rw [i_rng2, ea]
  show ((evE cf b env h).bind fun y h => (ofOpt (asI (.int i)) h).bind fun i h => (ofOpt (asI y) h).bind fun j h => if rgOk i && rgOk j then Out.ok (rngV i (j - i).toNat) h else .bad) = _
  rw [eb]
  show (if rgOk i && rgOk j then Out.ok (rngV i ((j - i).toNat)) h else .bad) = _
  rw [ri, rj, e]
  rfl
theorem ss_ok {cf : Nat → List Val → Hs → Out Val} {s : S} {ss : List S} {env env' : Pyi.Env} {h h' : Hs} (e : evS cf s env h = .ok .nxt env' h') : evSs cf (s :: ss) env h = evSs cf ss env' h' := by
  rw [ss_cons, e]
  rfl
theorem ss_ret {cf : Nat → List Val → Hs → Out Val} {s : S} {ss : List S} {env env' : Pyi.Env} {h h' : Hs} {v : Val} (e : evS cf s env h = .ok (.ret v) env' h') : evSs cf (s :: ss) env h = .ok (.ret v) env' h' := by
  rw [ss_cons, e]
  rfl
theorem ss_set {cf : Nat → List Val → Hs → Out Val} {i : Nat} {e : E} {ss : List S} {env : Pyi.Env} {h h' : Hs} {v : Val} (he : evE cf e env h = .ok v h') : evSs cf (.set i e :: ss) env h = evSs cf ss (env.set i (some (.v v))) h' := by
  rw [ss_cons, s_set_, he]
  rfl
theorem ss_ifn {cf : Nat → List Val → Hs → Out Val} {c : E} {a ss : List S} {env : Pyi.Env} {h h' : Hs} (he : evE cf c env h = .ok (.bl false) h') : evSs cf (.if_ c a [] :: ss) env h = evSs cf ss env h' := by
  rw [ss_cons, s_if_, he]
  rfl
theorem ss_rete {cf : Nat → List Val → Hs → Out Val} {e : E} {ss : List S} {env : Pyi.Env} {h h' : Hs} {v : Val} (he : evE cf e env h = .ok v h') : evSs cf (.ret e :: ss) env h = .ok (.ret v) env h' := by
  rw [ss_cons, s_ret_, he]
  rfl
end LT
set_option Elab.async false
set_option linter.all false
set_option maxRecDepth 100000
set_option maxHeartbeats 2000000
namespace LT
open PySem Pyi
/-! behind -/
theorem spR_int (n : Nat) : spR (mkRat n 1) = 2 * n := by
  have e := rv_one n
  unfold rv at e
  injection e with e
  injection e with e1 e2
  injection e2 with e2 _
  injection e1 with e1
  injection e2 with e2
  unfold spR
  have d1 : (mkRat (n : Int) 1).den = 1 := by omega
  rw [e1, d1]
  simp [bitB, Nat.mod_one]
theorem sz_int {n box : Nat} (h1 : 1 ≤ n) (h2 : n ≤ box) (h3 : box ≤ 60) : Sz 10 box (mkRat n 1) := by
  have e := rv_one n
  unfold rv at e
  injection e with e
  injection e with e1 e2
  injection e2 with e2 _
  injection e1 with e1
  injection e2 with e2
  have d1 : (mkRat (n : Int) 1).den = 1 := by omega
  exact ⟨⟨by omega, by rw [e1]; exact Int.lt_of_le_of_lt (show (n : Int) ≤ 60 by omega) (by decide), by rw [d1]; decide⟩, by omega, by rw [e1, d1]; omega⟩
def behW (os : List Step) (obox w : Nat) : Nat := if w = 0 then 0 else wAt os (2 * min w obox)
def behS (os : List Step) (obox : Nat) (ss : List Step) : List Step := ss.map fun s => (s.1, s.2.1, behW os obox s.2.2)
theorem beh_fine {box bound obox obound : Nat} {ss os : List Step} (f : Fine box bound ss) (g : Fine obox obound os) : Fine box obound (behS os obox ss) := by
  refine ⟨f.b1, f.b2, g.d1, g.d2, fun s hs => ?_, ?_⟩
  · obtain ⟨t, ht, rfl⟩ := List.mem_map.mp hs
    obtain ⟨h1, h2, h3⟩ := f.st t ht
    refine ⟨h1, h2, ?_⟩
    show behW os obox t.2.2 ≤ _
    unfold behW
    split
    · omega
    · have := wAt_bound (ss := os) (m := 1000000000) (fun s hs => by have := (g.st s hs).2.2; omega) (by omega) (2 * min t.2.2 obox)
      omega
  · exact List.pairwise_map.mpr f.asc
end LT
set_option Elab.async false
set_option linter.all false
set_option maxRecDepth 100000
set_option maxHeartbeats 2000000
namespace LT
open PySem Pyi
/-! finer, times -/
def finS (m : Nat) (ss : List Step) : List Step := ss.map fun s => (s.1, s.2.1 * m, s.2.2)
theorem fin_fine {box bound m : Nat} {ss : List Step} (f : Fine box bound ss) (h1 : 1 ≤ m) (h2 : box * m ≤ 60) : Fine (box * m) bound (finS m ss) := by
  have p : 1 * 1 ≤ box * m := Nat.mul_le_mul f.b1 h1
  refine ⟨by omega, h2, f.d1, f.d2, fun s hs => ?_, ?_⟩
  · obtain ⟨t, ht, rfl⟩ := List.mem_map.mp hs
    obtain ⟨q1, q2, q3⟩ := f.st t ht
    refine ⟨fun hb => ?_, fun hb => ?_, q3⟩
    · obtain ⟨r1, r2⟩ := q1 hb
      exact ⟨Nat.mul_le_mul r1 h1, Nat.mul_le_mul_right m r2⟩
    · exact (Nat.mul_lt_mul_right (by omega)).mpr (q2 hb)
  · refine List.pairwise_map.mpr (f.asc.imp fun {a b} hab => ?_)
    unfold spc at hab ⊢
    show 2 * (a.2.1 * m) + bitB a.1 < 2 * (b.2.1 * m) + bitB b.1
    have ba : bitB a.1 ≤ 1 := by unfold bitB; split <;> omega
    have bb : bitB b.1 ≤ 1 := by unfold bitB; split <;> omega
    rcases Nat.lt_trichotomy a.2.1 b.2.1 with z | z | z
    · have l1 : (a.2.1 + 1) * m ≤ b.2.1 * m := Nat.mul_le_mul_right m z
      have l2 : (a.2.1 + 1) * m = a.2.1 * m + m := Nat.succ_mul _ _
      omega
    · rw [z] at hab ⊢
      omega
    · omega
end LT
set_option Elab.async false
set_option linter.all false
set_option maxRecDepth 100000
set_option maxHeartbeats 2000000
namespace LT
open PySem Pyi
/-! times -/
def timS (t : Nat) (ss : List Step) : List Step := ss.map fun s => (s.1, s.2.1, s.2.2 * t)
theorem maxL_le (B : Int) : ∀ (l : List Int) (m : Int), m ≤ B → (∀ x ∈ l, x ≤ B) → maxL m l ≤ B
  | [], m, hm, _ => hm
  | x :: l, m, hm, hl => by
    unfold maxL
    refine maxL_le B l _ ?_ fun y hy => hl y (List.mem_cons_of_mem _ hy)
    split
    · exact hl x List.mem_cons_self
    · exact hm
theorem max_le {α : Type} {x B : Int} {f : α → Int} {l : List α} (hx : x ≤ B) (hl : ∀ a ∈ l, f a ≤ B) : ∃ M, maxV (.lst (.int x :: l.map fun a => .int (f a))) = some (.int M) ∧ M ≤ B := by
  refine ⟨maxL x (l.map f), ?_, maxL_le B _ _ hx fun y hy => ?_⟩
  · show (intsOf (Val.int x :: l.map fun a => Val.int (f a))).bind _ = _
    have : intsOf (Val.int x :: l.map fun a => Val.int (f a)) = some (x :: l.map f) := by
      show (intsOf (l.map fun a => Val.int (f a))).map (x :: ·) = _
      rw [ints_map]
      rfl
    rw [this]
    rfl
  · obtain ⟨a, ha, rfl⟩ := List.mem_map.mp hy
    exact hl a ha
theorem tim_fine {box bound t : Nat} {ss : List Step} (f : Fine box bound ss) (h1 : 1 ≤ t) (h2 : bound * t ≤ 999999999) (h3 : ∀ s ∈ ss, s.2.2 * t ≤ 999999999) : Fine box (bound * t) (timS t ss) := by
  have p : 1 * 1 ≤ bound * t := Nat.mul_le_mul f.d1 h1
  refine ⟨f.b1, f.b2, by omega, h2, fun s hs => ?_, List.pairwise_map.mpr f.asc⟩
  obtain ⟨u, hu, rfl⟩ := List.mem_map.mp hs
  obtain ⟨q1, q2, q3⟩ := f.st u hu
  exact ⟨q1, q2, h3 u hu⟩
/-! values that are told twice -/
theorem ne_self {v : Val} (h : plainV v = true) (hv : veq v v = true) : cmpop .ne v v = some false := by
  rw [c_ne h h, hv]
  rfl
theorem veqs_ints : ∀ l : List Int, veqs (l.map .int) (l.map .int) = true
  | [] => rfl
  | x :: l => by
    show (veq (.int x) (.int x) && veqs (l.map .int) (l.map .int)) = true
    rw [veqs_ints l]
    show ((x == x) && true) = true
    simp
theorem plain_ints : ∀ l : List Int, plainV (.lst (l.map .int)) = true := fun l => by
  unfold plainV
  have e1 : ∀ l : List Int, eqOk (.lst (l.map .int)) = true := fun l => by
    induction l with
    | nil => rfl
    | cons x l ih => exact ih
  have e2 : ∀ l : List Int, strsOk (.lst (l.map .int)) = true := fun l => by
    induction l with
    | nil => rfl
    | cons x l ih => exact ih
  rw [e1, e2]
  rfl
theorem ne_ints (l : List Int) : cmpop .ne (.lst (l.map .int)) (.lst (l.map .int)) = some false := ne_self (plain_ints l) (veqs_ints l)
end LT
set_option Elab.async false
set_option linter.all false
set_option maxRecDepth 100000
set_option maxHeartbeats 2000000
namespace LT
open PySem Pyi
/-! ### the least table -/
def trueS (ss : List Step) : List (Nat × Nat) := (ss.filter fun s => decide (0 < s.2.2)).map fun s => (spc s, s.2.2)
def restZ (s o : Nat) : Int := ((s : Int) - o) + if o % 2 = 1 ∧ ((s : Int) - o) % 2 = 0 then 1 else 0
def cand (ts : List (Nat × Nat)) (L : List Int) (s : Nat) : List Int := (ts.filter fun t => decide (0 ≤ restZ s t.1)).map fun t => L.getD (restZ s t.1).toNat 0 + t.2
def ltab (ts : List (Nat × Nat)) : Nat → List Int
  | 0 => [0]
  | s + 1 => ltab ts s ++ [maxL ((ltab ts s).getLastD 0) (cand ts (ltab ts s) (s + 1))]
theorem ltab_len (ts : List (Nat × Nat)) : ∀ n, (ltab ts n).length = n + 1
  | 0 => rfl
  | n + 1 => by
    show (ltab ts n ++ [_]).length = _
    rw [List.length_append, ltab_len ts n]
    rfl
theorem maxL_eq (M : Int) : ∀ (l : List Int) (m : Int), m ≤ M → (∀ x ∈ l, x ≤ M) → (M = m ∨ M ∈ l) → maxL m l = M
  | [], m, _, _, h => by
    rcases h with h | h
    · exact h.symm
    · cases h
  | x :: l, m, hm, hl, h => by
    unfold maxL
    have hx := hl x List.mem_cons_self
    refine maxL_eq M l _ (by split <;> omega) (fun y hy => hl y (List.mem_cons_of_mem _ hy)) ?_
    rcases h with h | h
    · refine .inl ?_
      rw [if_neg (by omega)]
      exact h
    · rcases List.mem_cons.mp h with h | h
      · refine .inl ?_
        subst h
        split <;> omega
      · exact .inr h
theorem getLastD_map (f : Nat → Int) (n : Nat) : ((List.range (n + 1)).map f).getLastD 0 = f n := by
  rw [List.range_succ, List.map_append]
  simp
/-- the table is what a law of worths says -/
theorem ltab_of {ts : List (Nat × Nat)} {f : Nat → Nat} (f0 : f 0 = 0) (N : Nat) (hs : ∀ s, s < N → f s ≤ f (s + 1) ∧ (∀ t ∈ ts, 0 ≤ restZ (s + 1) t.1 → (restZ (s + 1) t.1).toNat ≤ s ∧ f (restZ (s + 1) t.1).toNat + t.2 ≤ f (s + 1)) ∧ (f (s + 1) = f s ∨ ∃ t ∈ ts, 0 ≤ restZ (s + 1) t.1 ∧ f (restZ (s + 1) t.1).toNat + t.2 = f (s + 1))) :
    ∀ n, n ≤ N → ltab ts n = (List.range (n + 1)).map fun s => (f s : Int)
  | 0, _ => by
    show [(0 : Int)] = [((f 0 : Nat) : Int)]
    rw [f0]
    rfl
  | n + 1, hn => by
    have ih := ltab_of f0 N hs n (by omega)
    obtain ⟨h1, h2, h3⟩ := hs n (by omega)
    have gd : ∀ i, i ≤ n → ((List.range (n + 1)).map fun s => (f s : Int)).getD i 0 = (f i : Int) := fun i hi => by
      rw [List.getD_eq_getElem?_getD, List.getElem?_map, List.getElem?_range (by omega)]
      rfl
    have mx : maxL ((ltab ts n).getLastD 0) (cand ts (ltab ts n) (n + 1)) = (f (n + 1) : Int) := by
      rw [ih, getLastD_map (fun s => (f s : Int)) n]
      refine maxL_eq _ _ _ (by omega) (fun x hx => ?_) ?_
      · obtain ⟨t, ht, rfl⟩ := List.mem_map.mp hx
        obtain ⟨ht, hr⟩ := List.mem_filter.mp ht
        obtain ⟨q1, q2⟩ := h2 t ht (of_decide_eq_true hr)
        rw [gd _ q1]
        omega
      · rcases h3 with h3 | ⟨t, ht, hr, h3⟩
        · exact .inl (by rw [h3])
        · refine .inr (List.mem_map.mpr ⟨t, List.mem_filter.mpr ⟨ht, decide_eq_true hr⟩, ?_⟩)
          rw [gd _ (h2 t ht hr).1]
          omega
    show ltab ts n ++ [_] = _
    rw [mx, ih, List.range_succ (n := n + 1), List.map_append]
    rfl
theorem worth_one {h : Hs} {box : Nat} {ss : List Step} (hb : 1 ≤ box) : getH h (worthsV box ss) (.int 1) = some (.int (wAt ss 1)) := worth_get (s := 1) (by omega)
theorem mapF_filt {α : Type} {g : Val → Hs → Out (Option Val)} {i f : α → Val} {p : α → Bool} {h : Hs} : ∀ (xs : List α), (∀ x ∈ xs, g (i x) h = .ok (if p x then some (f x) else none) h) → mapF g (xs.map i) h = .ok ((xs.filter p).map f) h
  | [], _ => rfl
  | x :: xs, hx => by
    have ih := mapF_filt (g := g) (i := i) (f := f) (p := p) (h := h) xs fun y hy => hx y (List.mem_cons_of_mem _ hy)
    rw [List.map_cons, mf_cons, hx x List.mem_cons_self]
    cases hp : p x with
    | true =>
      rw [List.filter_cons_of_pos hp]
      simp [ih]
    | false =>
      rw [List.filter_cons_of_neg (by rw [hp]; exact Bool.false_ne_true)]
      simp [ih]
def tsV (t : Nat × Nat) : Val := .tup [.int t.1, .int t.2]
end LT
set_option Elab.async false
set_option linter.all false
set_option maxRecDepth 100000
set_option maxHeartbeats 2000000
namespace LT
open PySem Pyi
def bT : List S := [.set 4 (.fr (.comp (.tup [.call 75 [.var 1, .var 5] [], .var 6]) (.t [.v 5, .v 6]) (.seq (.var 3)) [])), .app 2 (.bi .max_ [.fr (.lstS [.oidx 2 (.neg (.lit (.int 1))), .star (.fr (.comp (.bin .add (.oidx 2 (.var 7)) (.var 6)) (.t [.v 7, .v 6]) (.seq (.var 4)) [.cmp .ge (.var 7) (.lit (.int 0))]))])])]
theorem at_lastI {L : List Int} {n : Nat} (hL : L.length = n + 1) : atI (L.map Val.int) (-1) = some (.int (L.getLastD 0)) := by
  have ne : L ≠ [] := fun z => by rw [z] at hL; cases hL
  have e : L = L.dropLast ++ [L.getLast ne] := (List.dropLast_concat_getLast ne).symm
  have e2 : L.getLastD 0 = L.getLast ne := by
    rw [List.getLastD_eq_getLast?, List.getLast?_eq_some_getLast ne]
    rfl
  rw [e2]
  conv => lhs; rw [e]
  rw [List.map_append]
  exact at_last _ _
theorem at_D {L : List Int} {r : Int} (h0 : 0 ≤ r) (h1 : r.toNat < L.length) : atI (L.map Val.int) r = some (.int (L.getD r.toNat 0)) := by
  obtain ⟨n, rfl⟩ := Int.eq_ofNat_of_zero_le h0
  rw [at_n (by rw [List.length_map]; exact h1), List.getElem?_map, List.getD_eq_getElem?_getD]
  show (L[n]?).map Val.int = some (.int (L[n]?.getD 0))
  have h1 : n < L.length := h1
  rw [List.getElem?_eq_getElem h1]
  rfl
theorem max_ints (x : Int) (l : List Int) : maxV (.lst (.int x :: l.map .int)) = some (.int (maxL x l)) := by
  have : ∀ l : List Int, intsOf (l.map Val.int) = some l := fun l => by
    induction l with
    | nil => rfl
    | cons a l ih =>
      show (intsOf (l.map Val.int)).map (a :: ·) = _
      rw [ih]
      rfl
  show (intsOf ((x :: l).map Val.int)).bind _ = _
  rw [this]
  rfl
def restV (s : Nat) (t : Nat × Nat) : Val := .tup [.int (restZ (s + 1) t.1), .int t.2]
theorem lt_turn {cf : Nat → List Val → Hs → Out Val} {h : Hs} {s : Nat} {ts : List (Nat × Nat)} {L : List Int} {a0 s1 s4 s5 s6 s7 : Option Slot} (hr : ∀ t ∈ ts, cf 75 [.int ((s : Int) + 1), .int t.1] h = .ok (.int (restZ (s + 1) t.1)) h) (hb : ∀ t ∈ ts, 0 ≤ restZ (s + 1) t.1 → (restZ (s + 1) t.1).toNat < L.length) (hL : L.length = s + 1) (few : ts.length ≤ 500) (hs : s ≤ 500) :
    turnF cf (.v 1) bT (.int ((s : Int) + 1)) [a0, s1, some (.own (L.map .int)), some (.v (.lst (ts.map tsV))), s4, s5, s6, s7] h = .ok .nxt [a0, some (.v (.int ((s : Int) + 1))), some (.own ((L ++ [maxL (L.getLastD 0) (cand ts L (s + 1))]).map .int)), some (.v (.lst (ts.map tsV))), some (.v (.lst (ts.map (restV s)))), s5, s6, s7] h := by
  have m1 := mapF_map (h := h) (i := tsV) (f := restV s) (g := turnC cf [a0, some (.v (.int ((s : Int) + 1))), some (.own (L.map .int)), some (.v (.lst (ts.map tsV))), s4, s5, s6, s7] (.t [.v 5, .v 6]) [] (.tup [.call 75 [.var 1, .var 5] [], .var 6])) ts (fun t ht => by
    have r := hr t ht
    simp [turnC_eq, tsV, restV, r])
  have m2 := mapF_filt (h := h) (i := restV s) (f := fun t => Val.int (L.getD (restZ (s + 1) t.1).toNat 0 + t.2)) (p := fun t => decide (0 ≤ restZ (s + 1) t.1)) (g := turnC cf [a0, some (.v (.int ((s : Int) + 1))), some (.own (L.map .int)), some (.v (.lst (ts.map tsV))), some (.v (.lst (ts.map (restV s)))), s5, s6, s7] (.t [.v 7, .v 6]) [.cmp .ge (.var 7) (.lit (.int 0))] (.bin .add (.oidx 2 (.var 7)) (.var 6))) ts (fun t ht => by
    have b := hb t ht
    unfold restV
    generalize restZ (s + 1) t.1 = r at b ⊢
    by_cases h0 : 0 ≤ r
    · have e := at_D h0 (b h0)
      simp [turnC_eq, h0, e]
    · simp [turnC_eq, h0])
  have em : ((ts.filter fun t => decide (0 ≤ restZ (s + 1) t.1)).map fun t => Val.int (L.getD (restZ (s + 1) t.1).toNat 0 + t.2)) = (cand ts L (s + 1)).map .int := by
    unfold cand
    rw [List.map_map]
    rfl
  rw [em] at m2
  have lc : (cand ts L (s + 1)).length ≤ ts.length := by
    unfold cand
    rw [List.length_map]
    exact List.length_filter_le _ _
  have mx := max_ints (L.getLastD 0) (cand ts L (s + 1))
  have la := at_lastI hL
  have k1 : ts.length ≤ most := Nat.le_trans (show ts.length ≤ 1000 by omega) (by decide)
  have k2 : (cand ts L (s + 1)).length + 1 ≤ most := Nat.le_trans (show _ ≤ 1000 by omega) (by decide)
  have k3 : L.length ≤ most := Nat.le_trans (show _ ≤ 1000 by omega) (by decide)
  generalize hc : cand ts L (s + 1) = C at *
  clear em lc
  generalize L.getLastD 0 = z at *
  have e1 : evS cf (.set 4 (.fr (.comp (.tup [.call 75 [.var 1, .var 5] [], .var 6]) (.t [.v 5, .v 6]) (.seq (.var 3)) []))) [a0, some (.v (.int ((s : Int) + 1))), some (.own (L.map .int)), some (.v (.lst (ts.map tsV))), s4, s5, s6, s7] h = .ok .nxt [a0, some (.v (.int ((s : Int) + 1))), some (.own (L.map .int)), some (.v (.lst (ts.map tsV))), some (.v (.lst (ts.map (restV s)))), s5, s6, s7] h := by
    simp [m1, k1]
  have e2 : evS cf (.app 2 (.bi .max_ [.fr (.lstS [.oidx 2 (.neg (.lit (.int 1))), .star (.fr (.comp (.bin .add (.oidx 2 (.var 7)) (.var 6)) (.t [.v 7, .v 6]) (.seq (.var 4)) [.cmp .ge (.var 7) (.lit (.int 0))]))])])) [a0, some (.v (.int ((s : Int) + 1))), some (.own (L.map .int)), some (.v (.lst (ts.map tsV))), some (.v (.lst (ts.map (restV s)))), s5, s6, s7] h = .ok .nxt [a0, some (.v (.int ((s : Int) + 1))), some (.own ((L ++ [maxL z C]).map .int)), some (.v (.lst (ts.map tsV))), some (.v (.lst (ts.map (restV s)))), s5, s6, s7] h := by
    simp [m2, k1, k2, k3, la, mx]
  rw [turnF_eq]
  show (evSs cf [_, _] [a0, some (.v (.int ((s : Int) + 1))), some (.own (L.map .int)), some (.v (.lst (ts.map tsV))), s4, s5, s6, s7] h) = _
  rw [ss_ok e1, ss_ok e2]
  rfl
theorem rest_lt {s o : Nat} (h : 2 ≤ o) (h0 : 0 ≤ restZ (s + 1) o) : (restZ (s + 1) o).toNat ≤ s := by
  unfold restZ at h0 ⊢
  split at h0 <;> rename_i hc
  · rw [if_pos hc]
    omega
  · rw [if_neg hc]
    omega
theorem lt_loop {cf : Nat → List Val → Hs → Out Val} {h : Hs} {ts : List (Nat × Nat)} {a0 s5 s6 s7 : Option Slot} {N : Nat} (hr : ∀ (s : Nat), ∀ t ∈ ts, cf 75 [.int ((s : Int) + 1), .int t.1] h = .ok (.int (restZ (s + 1) t.1)) h) (ho : ∀ t ∈ ts, 2 ≤ t.1) (few : ts.length ≤ 500) (hN : N ≤ 500) :
    ∀ (m s : Nat) (s1 s4 : Option Slot), s + m = N → ∃ t1 t4, loopF (turnF cf (.v 1) bT) (rngV ((s : Int) + 1) m) [a0, s1, some (.own ((ltab ts s).map .int)), some (.v (.lst (ts.map tsV))), s4, s5, s6, s7] h = .ok .nxt [a0, t1, some (.own ((ltab ts N).map .int)), some (.v (.lst (ts.map tsV))), t4, s5, s6, s7] h
  | 0, s, s1, s4, e => ⟨s1, s4, by
    have : s = N := by omega
    subst this
    rfl⟩
  | m + 1, s, s1, s4, e => by
    obtain ⟨t1, t4, ih⟩ := lt_loop (N := N) hr ho few hN m (s + 1) (some (.v (.int ((s : Int) + 1)))) (some (.v (.lst (ts.map (restV s))))) (by omega)
    refine ⟨t1, t4, ?_⟩
    have tn := lt_turn (cf := cf) (h := h) (s := s) (ts := ts) (L := ltab ts s) (a0 := a0) (s1 := s1) (s4 := s4) (s5 := s5) (s6 := s6) (s7 := s7) (hr s) (fun t ht h0 => by
      rw [ltab_len]
      have := rest_lt (s := s) (ho t ht) h0
      omega) (ltab_len ts s) few (by omega)
    have c1 : (((s + 1 : Nat)) : Int) = (s : Int) + 1 := Int.natCast_add s 1
    rw [← ih, c1]
    show loopF _ (.int ((s : Int) + 1) :: rngV ((s : Int) + 1 + 1) m) _ h = _
    rw [lf_cons, tn]
    rfl
theorem find_sp {s : Step} : ∀ {ss : List Step}, Asc ss → s ∈ ss → (ss.find? fun t => spc t == spc s) = some s
  | a :: l, as, hs => by
    rcases List.mem_cons.mp hs with z | z
    · subst z
      rw [List.find?_cons_of_pos (by simp)]
    · have lt : spc a < spc s := (List.pairwise_cons.mp as).1 s z
      rw [List.find?_cons_of_neg (by
        intro q
        have := eq_of_beq q
        omega)]
      exact find_sp (List.pairwise_cons.mp as).2 z
theorem true_ge {ss : List Step} {box bound : Nat} (f : Fine box bound ss) (h1 : wAt ss 1 = 0) : ∀ t ∈ trueS ss, 2 ≤ t.1 := by
  intro t ht
  obtain ⟨s, hs, rfl⟩ := List.mem_map.mp ht
  obtain ⟨hs, hw⟩ := List.mem_filter.mp hs
  have hw := of_decide_eq_true hw
  have g1 := (f.spc s hs).1
  show 2 ≤ spc s
  by_cases e : spc s = 1
  · have fs : (ss.find? fun t => spc t == 0 + 1) = some s := by
      have := find_sp f.asc hs
      rw [e] at this
      exact this
    have : wAt ss 1 = s.2.2 := by
      show (match ss.find? fun t => spc t == 0 + 1 with
        | some t => t.2.2
        | none => wAt ss 0) = _
      rw [fs]
    omega
  · omega
end LT
set_option Elab.async false
set_option linter.all false
set_option maxRecDepth 100000
set_option maxHeartbeats 2000000
namespace LT
open PySem Pyi
/-! sizes by numerator and denominator -/
theorem mk_parts (o u : Nat) (hu : 0 < u) : ∃ a b g : Nat, 0 < g ∧ o = g * a ∧ u = g * b ∧ 0 < b ∧ (mkRat (o : Int) u).num = a ∧ (mkRat (o : Int) u).den = b := by
  have e := rv_mk o u hu
  unfold rv at e
  injection e with e
  injection e with e1 e2
  injection e2 with e2 _
  injection e1 with e1
  injection e2 with e2
  have g0 : 0 < Nat.gcd o u := Nat.gcd_pos_of_pos_right o hu
  refine ⟨o / Nat.gcd o u, u / Nat.gcd o u, Nat.gcd o u, g0, (Nat.mul_div_cancel' (Nat.gcd_dvd_left o u)).symm, (Nat.mul_div_cancel' (Nat.gcd_dvd_right o u)).symm, Nat.div_pos (Nat.le_of_dvd hu (Nat.gcd_dvd_right o u)) g0, ?_, ?_⟩
  · rw [e1]
    exact (Int.natCast_ediv o (Nat.gcd o u)).symm
  · have : (((mkRat (o : Int) u).den : Nat) : Int) = ((u / Nat.gcd o u : Nat) : Int) := by
      rw [e2]
      exact (Int.natCast_ediv u (Nat.gcd o u)).symm
    exact Int.ofNat_inj.mp this
theorem spR_mk (o u : Nat) (hu : 0 < u) : spR (mkRat o u) = 2 * (o / u) + bitB (decide (0 < o % u)) := by
  obtain ⟨a, b, g, g0, ea, eb, b0, e1, e2⟩ := mk_parts o u hu
  unfold spR
  rw [e1, e2, ea, eb, Nat.mul_div_mul_left _ _ g0, Nat.mul_mod_mul_left, Int.toNat_natCast]
  congr 2
  have : (0 < a % b) = (0 < g * (a % b)) := propext ⟨fun h => Nat.mul_pos g0 h, fun h => Nat.pos_of_mul_pos_left h⟩
  simp only [this]
theorem sz_mk {o u n box : Nat} (ho : 0 < o) (hu : 0 < u) (h1 : o ≤ box * u) (h2 : o < 2 ^ n) (h3 : u < 2 ^ n) : Sz n box (mkRat o u) := by
  obtain ⟨a, b, g, g0, ea, eb, b0, e1, e2⟩ := mk_parts o u hu
  have la : a ≤ o := by rw [ea]; exact Nat.le_mul_of_pos_left a g0
  have lb : b ≤ u := by rw [eb]; exact Nat.le_mul_of_pos_left b g0
  have a0 : 0 < a := by
    rcases Nat.eq_zero_or_pos a with z | z
    · rw [z] at ea; omega
    · exact z
  have ab : a ≤ box * b := by
    rw [ea, eb, show box * (g * b) = g * (box * b) from Nat.mul_left_comm box g b] at h1
    exact Nat.le_of_mul_le_mul_left h1 g0
  refine ⟨⟨by rw [e1]; omega, ?_, by rw [e2]; omega⟩, by rw [e1]; omega, by rw [e1, e2, ← Int.natCast_mul]; omega⟩
  rw [e1, ← pw n]
  have : a < 2 ^ n := by omega
  omega
/-! tables of a rule with one step -/
def fW (at' w : Nat) (s : Nat) : Nat := w * (s / (2 * at'))
def fC (at' w : Nat) (s : Nat) : Nat := w * ((s - 1) / 2 / at')
theorem div_step {s d : Nat} (h0 : 0 < d) (h : d ≤ s) : (s - d) / d + 1 = s / d := (Nat.div_eq_sub_div h0 h).symm
theorem tabW {a w : Nat} (ha : 1 ≤ a) (N : Nat) : ltab [(2 * a, w)] N = (List.range (N + 1)).map fun s => (fW a w s : Int) := by
  refine ltab_of (by unfold fW; rw [Nat.zero_div, Nat.mul_zero]) N (fun s hs => ?_) N (Nat.le_refl N)
  have d0 : 0 < 2 * a := by omega
  have mono : fW a w s ≤ fW a w (s + 1) := Nat.mul_le_mul_left w (Nat.div_le_div_right (Nat.le_succ s))
  have rz : restZ (s + 1) (2 * a) = ((s + 1 : Nat) : Int) - (2 * a : Nat) := by
    unfold restZ
    rw [if_neg (by omega)]
    omega
  have key : 2 * a ≤ s + 1 → fW a w (s + 1 - 2 * a) + w = fW a w (s + 1) := fun h => by
    unfold fW
    rw [← div_step d0 h, Nat.mul_add, Nat.mul_one]
  refine ⟨mono, fun t ht h0 => ?_, ?_⟩
  · rw [List.mem_singleton.mp ht] at h0 ⊢
    rw [rz] at h0 ⊢
    have h : 2 * a ≤ s + 1 := by omega
    have e : (((s + 1 : Nat) : Int) - (2 * a : Nat)).toNat = s + 1 - 2 * a := by omega
    rw [e]
    exact ⟨by omega, Nat.le_of_eq (key h)⟩
  · by_cases h : 2 * a ≤ s + 1
    · refine .inr ⟨_, List.mem_singleton.mpr rfl, ?_, ?_⟩
      · rw [rz]; omega
      · rw [rz, show (((s + 1 : Nat) : Int) - (2 * a : Nat)).toNat = s + 1 - 2 * a by omega]
        exact key h
    · refine .inl ?_
      unfold fW
      rw [Nat.div_eq_of_lt (by omega), Nat.div_eq_of_lt (by omega)]
theorem tabC {a w : Nat} (ha : 1 ≤ a) (N : Nat) : ltab [(2 * a + 1, w)] N = (List.range (N + 1)).map fun s => (fC a w s : Int) := by
  refine ltab_of (by unfold fC; simp) N (fun s hs => ?_) N (Nat.le_refl N)
  have mono : fC a w s ≤ fC a w (s + 1) := Nat.mul_le_mul_left w (Nat.div_le_div_right (Nat.div_le_div_right (by omega)))
  have f1 : fC a w (s + 1) = w * (s / 2 / a) := by unfold fC; rw [Nat.add_sub_cancel]
  have key : ∀ r, 2 * a ≤ s → (r - 1) / 2 = s / 2 - a → fC a w r + w = fC a w (s + 1) := fun r h e => by
    rw [f1]
    unfold fC
    rw [e, ← div_step (s := s / 2) (d := a) (by omega) (by omega), Nat.mul_add, Nat.mul_one]
  have rz : restZ (s + 1) (2 * a + 1) = (s : Int) - 2 * a + if ((s : Int) - 2 * a) % 2 = 0 then 1 else 0 := by
    unfold restZ
    have e : ((s + 1 : Nat) : Int) - ((2 * a + 1 : Nat) : Int) = (s : Int) - 2 * a := by omega
    rw [e]
    by_cases h : ((s : Int) - 2 * a) % 2 = 0
    · rw [if_pos ⟨by omega, h⟩, if_pos h]
    · rw [if_neg (fun z => h z.2), if_neg h]
  have good : 2 * a ≤ s → 0 ≤ restZ (s + 1) (2 * a + 1) ∧ (restZ (s + 1) (2 * a + 1)).toNat ≤ s ∧ fC a w (restZ (s + 1) (2 * a + 1)).toNat + w = fC a w (s + 1) := fun h => by
    rw [rz]
    split
    · refine ⟨by omega, by omega, key _ h ?_⟩
      omega
    · refine ⟨by omega, by omega, key _ h ?_⟩
      omega
  refine ⟨mono, fun t ht h0 => ?_, ?_⟩
  · rw [List.mem_singleton.mp ht] at h0 ⊢
    have h : 2 * a ≤ s := by
      show 2 * a ≤ s
      rw [rz] at h0
      split at h0 <;> omega
    obtain ⟨_, g2, g3⟩ := good h
    exact ⟨g2, Nat.le_of_eq g3⟩
  · by_cases h : 2 * a ≤ s
    · obtain ⟨g1, _, g3⟩ := good h
      exact .inr ⟨_, List.mem_singleton.mpr rfl, g1, g3⟩
    · refine .inl ?_
      rw [f1]
      unfold fC
      rw [Nat.div_eq_of_lt (a := s / 2) (by omega), Nat.div_eq_of_lt (a := (s - 1) / 2) (by omega)]
end LT
set_option Elab.async false
set_option linter.all false
set_option maxRecDepth 100000
set_option maxHeartbeats 2000000
namespace LT
open PySem Pyi
theorem lm {n : Nat} (h : n ≤ 1000) : n ≤ most := Nat.le_trans h (by decide)
theorem t_sp : (" " : Str) = T [32] := by decide +kernel
/-! what a rule tells, as a dict -/
def loreV (box bound : Nat) (ss : List Step) : Val := .dct [.str "box", .str "bound", .str "steps"] [.int box, .int bound, .lst (ss.map stepV)]
section
variable {h : Hs} {box bound : Nat} {ss : List Step}
theorem g_box : getH h (loreV box bound ss) (.str "box") = some (.int box) := by
  show (if sOk "box" = true then (if (("box" : Str) == "box") = true then some (Val.int box) else _) else none) = _
  rw [if_pos (by decide +kernel), if_pos (by decide +kernel)]
theorem g_bound : getH h (loreV box bound ss) (.str "bound") = some (.int bound) := by
  show (if sOk "bound" = true then (if (("box" : Str) == "bound") = true then some (Val.int box) else (if (("bound" : Str) == "bound") = true then some (Val.int bound) else _)) else none) = _
  rw [if_pos (by decide +kernel), if_neg (by decide +kernel), if_pos (by decide +kernel)]
theorem g_steps : getH h (loreV box bound ss) (.str "steps") = some (.lst (ss.map stepV)) := by
  show (if sOk "steps" = true then (if (("box" : Str) == "steps") = true then some (Val.int box) else (if (("bound" : Str) == "steps") = true then some (Val.int bound) else (if (("steps" : Str) == "steps") = true then some (Val.lst (ss.map stepV)) else _))) else none) = _
  rw [if_pos (by decide +kernel), if_neg (by decide +kernel), if_neg (by decide +kernel), if_pos (by decide +kernel)]
end
/-- the last worth at or below a space -/
def upto (ss : List Step) (s : Nat) : List Step := ss.filter fun t => decide (spc t ≤ s)
theorem wAt_last {ss : List Step} (as : Asc ss) (h1 : ∀ t ∈ ss, 1 ≤ spc t) : ∀ s, wAt ss s = ((upto ss s).map (·.2.2)).getLastD 0
  | 0 => by
    have : upto ss 0 = [] := List.filter_eq_nil_iff.mpr fun t ht => by
      have := h1 t ht
      simp
      omega
    rw [this]
    rfl
  | s + 1 => by
    cases e : ss.find? fun t => spc t == s + 1 with
    | none =>
      have ne : ∀ t ∈ ss, ¬ spc t = s + 1 := fun t ht z => by
        have := List.find?_eq_none.mp e t ht
        simp [z] at this
      have u : upto ss (s + 1) = upto ss s := List.filter_congr fun t ht => by
        have := ne t ht
        by_cases h : spc t ≤ s
        · rw [decide_eq_true h, decide_eq_true (by omega)]
        · rw [decide_eq_false h, decide_eq_false (by omega)]
      show (match ss.find? fun t => spc t == s + 1 with
        | some t => t.2.2
        | none => wAt ss s) = _
      rw [e, u]
      exact wAt_last as h1 s
    | some t =>
      show (match ss.find? fun t => spc t == s + 1 with
        | some t => t.2.2
        | none => wAt ss s) = _
      rw [e]
      have ht := List.mem_of_find?_eq_some e
      have et : spc t = s + 1 := by
        have := List.find?_some e
        simpa using this
      obtain ⟨l1, l2, es⟩ := List.append_of_mem ht
      rw [es] at as
      have p := List.pairwise_append.mp as
      have q := List.pairwise_cons.mp p.2.1
      have u : upto ss (s + 1) = l1 ++ [t] := by
        unfold upto
        rw [es, List.filter_append, List.filter_cons_of_pos (by simp [et]), List.filter_eq_self.mpr fun x hx => by
          have := p.2.2 x hx t List.mem_cons_self
          exact decide_eq_true (by omega), List.filter_eq_nil_iff.mpr fun x hx => by
          have := q.1 x hx
          simp
          omega]
      rw [u, List.map_append]
      simp
end LT
set_option Elab.async false
set_option linter.all false
set_option maxRecDepth 100000
set_option maxHeartbeats 2000000
namespace LT
open PySem Pyi
theorem lround_loop {cf : Nat → List Val → Hs → Out Val} {h : Hs} {n : Nat} (hn : n ≤ 40) : ∀ (m i : Nat) (s2 : Option Slot), i + m = n → ∃ t2, loopF (turnF cf (.v 2) [.ext 1 (.lst [.tup [.lit (.str "from"), .var 2, .bin .mul (.var 2) (.var 0)], .tup [.lit (.str "beyond"), .var 2, .bin .mul (.var 2) (.bin .add (.var 0) (.lit (.int 1)))]])]) (rngV ((i : Int) + 1) m)
      [some (.v (.int n)), some (.own (((List.range i).flatMap fun i => ([(false, i + 1, (i + 1) * n), (true, i + 1, (i + 1) * (n + 1))] : List Step)).map stepV)), s2] h = .ok .nxt [some (.v (.int n)), some (.own ((roundS n).map stepV)), t2] h
  | 0, i, s2, e => ⟨s2, by
    have : i = n := by omega
    subst this
    rfl⟩
  | m + 1, i, s2, e => by
    obtain ⟨t2, ih⟩ := lround_loop (cf := cf) (h := h) hn m (i + 1) (some (.v (.int ((i : Int) + 1)))) (by omega)
    refine ⟨t2, ?_⟩
    have c1 : (((i + 1 : Nat) : Int) + 1) = (i : Int) + 1 + 1 := by omega
    rw [← ih, c1]
    show loopF _ (.int ((i : Int) + 1) :: rngV ((i : Int) + 1 + 1) m) _ h = _
    rw [lf_cons]
    have s1 : sm ((i : Int) + 1) = true := sm_le (by omega)
    have s3 : sm (n : Int) = true := sm_le (by omega)
    have s4 : sm ((n : Int) + 1) = true := sm_le (by omega)
    have hl : ∀ j, ((List.range j).flatMap fun i => ([(false, i + 1, (i + 1) * n), (true, i + 1, (i + 1) * (n + 1))] : List Step)).length = 2 * j := fun j => by
      induction j with
      | zero => rfl
      | succ j ih => rw [List.range_succ, List.flatMap_append, List.length_append, ih]; rfl
    have hm : ((List.range i).flatMap fun i => ([(false, i + 1, (i + 1) * n), (true, i + 1, (i + 1) * (n + 1))] : List Step)).length + 1 + 1 ≤ most := by
      rw [hl]
      exact Nat.le_trans (show 2 * i + 1 + 1 ≤ 1000 by omega) (by decide)
    have e2 : ((List.range (i + 1)).flatMap fun i => ([(false, i + 1, (i + 1) * n), (true, i + 1, (i + 1) * (n + 1))] : List Step)).map stepV = ((List.range i).flatMap fun i => ([(false, i + 1, (i + 1) * n), (true, i + 1, (i + 1) * (n + 1))] : List Step)).map stepV ++ [.tup [.str (T wFrom), .int ((i : Int) + 1), .int (((i : Int) + 1) * n)], .tup [.str (T wBeyond), .int ((i : Int) + 1), .int (((i : Int) + 1) * (n + 1))]] := by
      rw [List.range_succ, List.flatMap_append, List.map_append]
      congr 1
    rw [e2]
    have hm' : (((List.range i).flatMap fun i => ([(false, i + 1, (i + 1) * n), (true, i + 1, (i + 1) * (n + 1))] : List Step)).map stepV).length + 1 + 1 ≤ most := by rw [List.length_map]; exact hm
    generalize ((List.range i).flatMap fun i => ([(false, i + 1, (i + 1) * n), (true, i + 1, (i + 1) * (n + 1))] : List Step)).map stepV = L at hm' ⊢
    simp [turnF_eq, t_from, t_beyond, b_mul s1 s3, b_mul s1 s4, hm']

theorem t_bx : ("box " : Str) = T (wBox ++ [32]) := by decide +kernel
theorem t_bd : ("bound " : Str) = T (wBound ++ [32]) := by decide +kernel
theorem t_nl : ("\n" : Str) = T [10] := by decide +kernel
theorem join_text {box bound : Nat} {ss : List Step} (f : Fine box bound ss) : joinV (T [10]) (.lst ((headL box bound ++ ss.map lineL).map fun x => .str (T x))) = some (.str (T (textL box bound ss))) := by
  have h : ∀ p ∈ headL box bound ++ ss.map lineL, p.length ≤ 48 := fun p hp => by
    rcases List.mem_append.mp hp with z | z
    · have lb := nm_len (n := box) (by have := f.b2; omega)
      have ld := nm_len (n := bound) (by have := f.d2; omega)
      simp only [headL, List.mem_cons, List.not_mem_nil, or_false] at z
      rcases z with rfl | rfl
      · simp; omega
      · simp; omega
    · obtain ⟨s, hm, rfl⟩ := List.mem_map.mp z
      exact line_len (f.bits s hm).1 (f.bits s hm).2
  refine join_V ?_
  have sum : ∀ (ps : List (List Nat)), (∀ p ∈ ps, p.length ≤ 48) → (ps.map (·.length)).sum ≤ ps.length * 48 := fun ps => by
    induction ps with
    | nil => intro _; simp
    | cons p ps ih =>
      intro hp
      have h1 := hp p (by simp)
      have h2 := ih fun q hq => hp q (by simp [hq])
      rw [List.map_cons, List.sum_cons, List.length_cons, Nat.add_mul]
      omega
  have s1 := sum _ h
  have few : (headL box bound ++ ss.map lineL).length ≤ 1002 := by have := f.few; simp [headL]; omega
  have : (1002 * 48 + 1002) ≤ most := by decide
  have l10 : ([10] : List Nat).length = 1 := rfl
  rw [l10]
  omega
theorem core76 {cf : Nat → List Val → Hs → Out Val} {h : Hs} {V : Val} {B D : Int} {SS LS : List Val} {X1 X2 S1 S2 N1 N2 NL TX : Str} (gb : getH h V (.str "box") = some (.int B)) (gd : getH h V (.str "bound") = some (.int D)) (gs : getH h V (.str "steps") = some (.lst SS))
    (n1 : strV (.int B) = some (.str N1)) (n2 : strV (.int D) = some (.str N2)) (a1 : binop .add (.str "box ") (.str N1) = some (.str S1)) (a2 : binop .add (.str "bound ") (.str N2) = some (.str S2))
    (c : mapF (turnC cf [some (.v V), some (.v (.lst [.str S1, .str S2])), none, none, none] (.t [.v 2, .v 3, .v 4]) [] (.bin .add (.bin .add (.bin .add (.bin .add (.var 2) (.lit (.str " "))) (.bi .str_ [.var 3])) (.lit (.str " "))) (.bi .str_ [.var 4]))) SS h = .ok LS h)
    (m1 : SS.length ≤ most) (m2 : 2 + LS.length ≤ most) (m3 : 2 ≤ most) (j : joinV ("\n" : Str) (.lst (.str S1 :: .str S2 :: LS)) = some (.str TX)) : retOf (evSs cf d76.body [some (.v V), none, none, none, none] h) = .ok (.str TX) h := by
  have e1 : evS cf (.set 1 (.fr (.lst [.bin .add (.lit (.str "box ")) (.bi .str_ [.idx (.var 0) (.lit (.str "box"))]), .bin .add (.lit (.str "bound ")) (.bi .str_ [.idx (.var 0) (.lit (.str "bound"))])]))) [some (.v V), none, none, none, none] h = .ok .nxt [some (.v V), some (.v (.lst [.str S1, .str S2])), none, none, none] h := by
    simp [gb, gd, n1, n2, a1, a2]
  have m4 : LS.length + 2 ≤ most := by omega
  show retOf (evSs cf [_, _] [some (.v V), none, none, none, none] h) = _
  rw [ss_ok e1]
  refine (congrArg retOf (ss_rete (h' := h) (v := .str TX) (by simp [gs, m1, c, m2, m3, m4, j]))).trans ?_
  rfl
theorem m_ltext {k : Nat} {h : Hs} {box bound : Nat} {ss : List Step} (f : Fine box bound ss) : callD U (k + 1) 76 [loreV box bound ss] h = .ok (.str (T (textL box bound ss))) h := by
  rw [call_eq (d := d76) rfl rfl]
  have few := f.few
  have b2 := f.b2
  have d2 := f.d2
  have lb := nm_len (n := box) (by omega)
  have ld := nm_len (n := bound) (by omega)
  have a1 := add_S (a := wBox ++ [32]) (b := nm box) (lm (by simp; omega))
  have a2 := add_S (a := wBound ++ [32]) (b := nm bound) (lm (by simp; omega))
  rw [← t_bx] at a1
  rw [← t_bd] at a2
  have c := mapF_map (h := h) (i := stepV) (f := fun s => Val.str (T (lineL s))) (g := turnC (callD U k) [some (.v (loreV box bound ss)), some (.v (.lst [.str (T ((wBox ++ [32]) ++ nm box)), .str (T ((wBound ++ [32]) ++ nm bound))])), none, none, none] (.t [.v 2, .v 3, .v 4]) [] (.bin .add (.bin .add (.bin .add (.bin .add (.var 2) (.lit (.str " "))) (.bi .str_ [.var 3])) (.lit (.str " "))) (.bi .str_ [.var 4]))) ss (fun s hs => by
    obtain ⟨g1, g2⟩ := f.bits s hs
    obtain ⟨b, p, w⟩ := s
    have g1 : p < 10 ^ 20 := g1
    have g2 : w < 10 ^ 20 := g2
    have l1 := nm_len g1
    have l2 := nm_len g2
    have lw : (wordL b).length ≤ 6 := by cases b <;> decide
    have q1 := add_S (a := wordL b) (b := [32]) (lm (by simp; omega))
    have q2 := add_S (a := wordL b ++ [32]) (b := nm p) (lm (by simp; omega))
    have q3 := add_S (a := wordL b ++ [32] ++ nm p) (b := [32]) (lm (by simp; omega))
    have q4 := add_S (a := wordL b ++ [32] ++ nm p ++ [32]) (b := nm w) (lm (by simp; omega))
    rw [← t_sp] at q1 q3
    have e : wordL b ++ [32] ++ nm p ++ [32] ++ nm w = lineL (b, p, w) := by
      show _ = wordL b ++ 32 :: (nm p ++ 32 :: nm w)
      simp
    rw [e] at q4
    have n1 := str_num (big_nat g1)
    have n2 := str_num (big_nat g2)
    generalize loreV box bound ss = V
    generalize callD U k = cf
    unfold stepV
    generalize T (lineL (b, p, w)) = R4 at *
    generalize T (wordL b ++ [32] ++ nm p ++ [32]) = R3 at *
    generalize T (wordL b ++ [32] ++ nm p) = R2 at *
    generalize T (wordL b ++ [32]) = R1 at *
    simp [turnC_eq, q1, q2, q3, q4, n1, n2])
  have j : joinV ("\n" : Str) (.lst (.str (T ((wBox ++ [32]) ++ nm box)) :: .str (T ((wBound ++ [32]) ++ nm bound)) :: ss.map fun s => Val.str (T (lineL s)))) = some (.str (T (textL box bound ss))) := by
    have e1 : (wBox ++ [32]) ++ nm box = wBox ++ 32 :: nm box := by simp
    have e2 : (wBound ++ [32]) ++ nm bound = wBound ++ 32 :: nm bound := by simp
    rw [t_nl, ← join_text f, e1, e2, List.map_append, List.map_map]
    rfl
  exact core76 (X1 := "") (X2 := "") (NL := "") g_box g_bound g_steps (str_num (big_nat (by omega))) (str_num (big_nat (by omega))) a1 a2 c (by rw [List.length_map]; exact lm (by omega)) (by rw [List.length_map]; exact lm (by omega)) (lm (by decide)) j
theorem m_lrule {k : Nat} {h : Hs} {box bound : Nat} {ss : List Step} (f : Fine box bound ss) : callD U (k + 6) 66 [loreV box bound ss] h = .ok (ruleV (textL box bound ss) box bound ss) h := by
  rw [call_eq (d := d66) rfl rfl]
  have t := m_ltext (k := k + 4) (h := h) f
  have n := m_new (k := k) (h := h) f
  generalize ruleV (textL box bound ss) box bound ss = V at *
  generalize loreV box bound ss = L at *
  generalize T (textL box bound ss) = X at *
  generalize callD U (k + 5) = cf at *
  simp [d66, start_eq, t, n]
end LT
set_option Elab.async false
set_option linter.all false
set_option maxRecDepth 100000
set_option maxHeartbeats 2000000
namespace LT
open PySem Pyi
/-! ### drawn sizes, drawn parts of a pool -/
theorem m_size_le {k : Nat} {h : Hs} {r c : Nat} (P : Pot h r c) (hc : c + 10 < 2 ^ 300) (box : Nat) (hb : 0 < box) (hb2 : box < 2 ^ 10) :
    ∃ (q : Rat) (h' : Hs), callD U (k + 3) 19 [.ref r, .int box] h = .ok (rv q) h' ∧ Sz 32 box q ∧ Pot h' r (c + 5) ∧ h'.length = h.length := by
  obtain ⟨way, h1, e1, w1, P1, l1⟩ := m_take (k := k + 1) P (by omega) 5 (by decide) (by decide +kernel)
  obtain ⟨at', h2, e2, w2, P2, l2⟩ := m_take (k := k + 1) P1 (by omega) box hb (Nat.lt_of_lt_of_le hb2 (Nat.pow_le_pow_right (by decide) (by decide)))
  obtain ⟨d, v, h3, e3, w3, P3, l3⟩ := m_of (k := k) P2 (by omega) [.int 3, .int 9, .int 1000000] (by simp) (by decide +kernel)
  obtain ⟨x, ex, x0, x1⟩ : ∃ x : Nat, v = .int x ∧ 0 < x ∧ x ≤ 1000000 := by
    match d, w3 with
    | 0, w3 => cases w3; exact ⟨3, rfl, by decide, by decide⟩
    | 1, w3 => cases w3; exact ⟨9, rfl, by decide, by decide⟩
    | 2, w3 => cases w3; exact ⟨1000000, rfl, by decide, by decide⟩
    | n + 3, w3 => cases w3
  subst ex
  obtain ⟨y, h4, e4, w4, P4, l4⟩ := m_take (k := k + 1) P3 (by omega) x x0 (Nat.lt_of_le_of_lt x1 (by decide +kernel))
  have pw6 : binop .pow (.int 10) (.int 6) = some (.int 1000000) := b_pow (by decide) (by decide) (by decide +kernel)
  have c5 : (5 : Int) = ((5 : Nat) : Int) := rfl
  have sat : Sm 10 (at' : Int) := by
    unfold Sm
    rw [Int.natAbs_natCast]
    omega
  have su : Sm 21 ((2 + y : Nat) : Int) := by
    unfold Sm
    rw [Int.natAbs_natCast]
    omega
  have mu : binop .mul (.int at') (.int (2 + (y : Int))) = some (.int ((at' : Int) * (2 + (y : Int)))) := by
    have := b_mul (sat.sm (by decide)) (su.sm (by decide))
    rw [Int.natCast_add] at this
    exact this
  have hm : at' * (2 + y) ≤ 1024 * 1000001 := Nat.mul_le_mul (by omega) (by omega)
  have b32 : (2 : Int) ^ 32 = 4294967296 := by decide
  have b32n : (2 : Nat) ^ 32 = 4294967296 := by decide
  have y32 : ∀ {n : Nat}, 32 ≤ n → 2 + y < 2 ^ n := fun {n} l => lt_pw (m := 32) (by omega) l
  have um : (2 + (y : Int)) = ((2 + y : Nat) : Int) := by rw [Int.natCast_add]; rfl
  have mm : ((at' : Int) * (2 + (y : Int))) = ((at' * (2 + y) : Nat) : Int) := by rw [Int.natCast_mul, ← um]
  rw [call_eq (d := d19) rfl rfl]
  rcases Nat.lt_or_ge way 2 with hw | hw
  · have hw' : (way : Int) < 2 := by omega
    refine ⟨mkRat ((at' + 1 : Nat) : Int) 1, h4, ?_, sz_mk (by omega) (by decide) (by omega) (by omega) (by decide), P4.mono (by omega), by omega⟩
    rw [rv_one, Int.natCast_add]
    simp [d19, start_eq, e1, e2, e3, e4, pw6, c5 ▸ e1, hw']
  · rcases Nat.lt_or_ge way 4 with h5 | h5
    · have hw2 : way = 2 ∨ way = 3 := by omega
      have dt : ∃ t : Nat, atI [Val.int 1, Val.int (2 + (y : Int) - 1)] ((way : Int) - 2) = some (.int t) ∧ 0 < t ∧ t ≤ y + 1 := by
        rcases hw2 with e | e
        · subst e
          exact ⟨1, rfl, by decide, by omega⟩
        · subst e
          refine ⟨y + 1, ?_, by omega, by omega⟩
          have e5 : ((3 : Nat) : Int) - 2 = 1 := rfl
          have e6 : 2 + (y : Int) - 1 = ((y + 1 : Nat) : Int) := by omega
          rw [e5, at_1, e6]
      obtain ⟨t, et, t0, t1⟩ := dt
      have ln : callD U (k + 2) 16 [.int ((at' : Int) * (2 + (y : Int)) + t), .int (2 + (y : Int))] h4 = .ok (rv (mkRat ((at' : Int) * (2 + (y : Int)) + t) (2 + y))) h4 := by
        have q := m_lnumber (k := k + 1) (h := h4) ((at' : Int) * (2 + (y : Int)) + t) (2 + y) (by rw [mm]; omega) (by omega) (y32 (by decide))
        rw [← um] at q
        exact q
      have hw' : ¬ (way : Int) < 2 := by omega
      have hw4 : ¬ (way : Int) = 4 := by omega
      refine ⟨mkRat ((at' : Int) * (2 + (y : Int)) + t) (2 + y), h4, ?_, by rw [show ((at' : Int) * (2 + (y : Int)) + t) = ((at' * (2 + y) + t : Nat) : Int) by rw [mm]; rfl]; exact sz_mk (by omega) (by omega) (by have q := Nat.mul_le_mul_right (2 + y) w2; have q2 : (at' + 1) * (2 + y) = at' * (2 + y) + (2 + y) := Nat.succ_mul _ _; have q : (at' + 1) * (2 + y) ≤ box * (2 + y) := q; omega) (by omega) (by omega), P4.mono (by omega), by omega⟩
      simp [d19, start_eq, e1, e2, e3, e4, pw6, c5 ▸ e1, hw', hw4, mu, et]
      simp [ln]
    · have e4w : way = 4 := by omega
      subst e4w
      obtain ⟨z, h6, e6, w6, P6, l6⟩ := m_take (k := k + 1) P4 (by omega) (2 + y) (by omega) (y32 (by decide))
      rw [← um] at e6
      have ln : callD U (k + 2) 16 [.int ((at' : Int) * (2 + (y : Int)) + 1 + z), .int (2 + (y : Int))] h6 = .ok (rv (mkRat ((at' : Int) * (2 + (y : Int)) + 1 + z) (2 + y))) h6 := by
        have q := m_lnumber (k := k + 1) (h := h6) ((at' : Int) * (2 + (y : Int)) + 1 + z) (2 + y) (by rw [mm]; omega) (by omega) (y32 (by decide))
        rw [← um] at q
        exact q
      refine ⟨mkRat ((at' : Int) * (2 + (y : Int)) + 1 + z) (2 + y), h6, ?_, by rw [show ((at' : Int) * (2 + (y : Int)) + 1 + z) = ((at' * (2 + y) + 1 + z : Nat) : Int) by rw [mm]; rfl]; exact sz_mk (by omega) (by omega) (by have q := Nat.mul_le_mul_right (2 + y) w2; have q2 : (at' + 1) * (2 + y) = at' * (2 + y) + (2 + y) := Nat.succ_mul _ _; have q : (at' + 1) * (2 + y) ≤ box * (2 + y) := q; omega) (by omega) (by omega), P6, by omega⟩
      simp [d19, start_eq, e1, e2, e3, e4, pw6, c5 ▸ e1, mu, e6, ln]


theorem i_rng1_ok {cf : Nat → List Val → Hs → Out Val} {b : E} {env : Pyi.Env} {h h' : Hs} {j : Int} {n : Nat} (eb : evE cf b env h = .ok (.int j) h') (rj : rgOk j = true) (e : j.toNat = n) : evIt cf (.rng1 b) env h = .ok (rngV 0 n) h' := by
  rw [i_rng1, eb]
  show (if rgOk j then Out.ok (rngV 0 j.toNat) h' else .bad) = _
  rw [rj, e]
  rfl
theorem erase_map {α β : Type} (f : α → β) : ∀ (l : List α) (d : Nat), (l.map f).eraseIdx d = (l.eraseIdx d).map f
  | [], _ => rfl
  | x :: l, 0 => rfl
  | x :: l, d + 1 => by
    show f x :: (l.map f).eraseIdx d = f x :: (l.eraseIdx d).map f
    rw [erase_map f l d]
theorem erase_perm {α : Type} : ∀ (l : List α) (d : Nat) (h : d < l.length), (l[d] :: l.eraseIdx d).Perm l
  | [], d, h => by simp at h
  | x :: l, 0, h => List.Perm.refl _
  | x :: l, d + 1, h => by
    have q := erase_perm l d (by simpa using h)
    show (l[d]'(by simpa using h) :: x :: l.eraseIdx d).Perm (x :: l)
    exact (List.Perm.swap _ _ _).trans (List.Perm.cons _ q)
theorem r1_step {cf : Nat → List Val → Hs → Out Val} {h h' : Hs} {a1 a2 s3 : Option Slot} {r d : Nat} {WS FS : List Val} {y : Val} {v : Val} (e : cf 13 [.ref r, .int WS.length] h = .ok (.int d) h') (m : FS.length ≤ most) (hd : d < 4611686018427387904) (g : WS[d]? = some y) :
    turnF cf (.v 3) [.appPop 5 4 (.call 13 [.var 0, .olen 4] [])] v [some (.v (.ref r)), a1, a2, s3, some (.own WS), some (.own FS)] h = .ok .nxt [some (.v (.ref r)), a1, a2, some (.v v), some (.own (WS.eraseIdx d)), some (.own (FS ++ [y]))] h' := by
  have h1 : (0 : Int) ≤ d := Int.natCast_nonneg d
  have h2 : (d : Int) < 4611686018427387904 := by omega
  simp [turnF_eq, e, m, h1, h2, g]
theorem some_loop {α : Type} (f : α → Val) {k r : Nat} {a1 a2 : Option Slot} : ∀ (n : Nat) (lo : Int) (L F : List α) (c : Nat) (h : Hs) (s3 : Option Slot), Pot h r c → c + n < 2 ^ 300 → n ≤ L.length → L.length ≤ 1000 → F.length + n ≤ 1000 →
    ∃ (L' F2 : List α) (h' : Hs) (s3' : Option Slot), loopF (turnF (callD U (k + 1)) (.v 3) [.appPop 5 4 (.call 13 [.var 0, .olen 4] [])]) (rngV lo n) [some (.v (.ref r)), a1, a2, s3, some (.own (L.map f)), some (.own (F.map f))] h =
      .ok .nxt [some (.v (.ref r)), a1, a2, s3', some (.own (L'.map f)), some (.own ((F ++ F2).map f))] h' ∧ F2.length = n ∧ (F2 ++ L').Perm L ∧ Pot h' r (c + n) ∧ h'.length = h.length
  | 0, lo, L, F, c, h, s3, P, _, _, _, _ => ⟨L, [], h, s3, by rw [List.append_nil]; rfl, rfl, List.Perm.refl _, P, rfl⟩
  | n + 1, lo, L, F, c, h, s3, P, hc, hn, hl, hf => by
    obtain ⟨d, h1, e1, w1, P1, l1⟩ := m_take (k := k) P (by omega) L.length (by omega) (Nat.lt_of_le_of_lt hl (by decide +kernel))
    have er : (L.eraseIdx d).length = L.length - 1 := List.length_eraseIdx_of_lt w1
    obtain ⟨L', F2, h2, s3', e2, q1, q2, P2, l2⟩ := some_loop f (k := k) (r := r) (a1 := a1) (a2 := a2) n (lo + 1) (L.eraseIdx d) (F ++ [L[d]]) (c + 1) h1 (some (.v (.int lo))) P1 (by omega) (by omega) (by omega) (by rw [List.length_append, List.length_singleton]; omega)
    refine ⟨L', L[d] :: F2, h2, s3', ?_, by rw [List.length_cons, q1], ?_, ?_, by omega⟩
    · show loopF _ (.int lo :: rngV (lo + 1) n) _ h = _
      have ee : (F ++ L[d] :: F2) = ((F ++ [L[d]]) ++ F2) := by simp
      have st := r1_step (a1 := a1) (a2 := a2) (s3 := s3) (WS := L.map f) (FS := F.map f) (y := f L[d]) (v := .int lo) (by rw [List.length_map]; exact e1) (by rw [List.length_map]; exact lm (by omega)) (by omega) (by rw [List.getElem?_map, List.getElem?_eq_getElem w1]; rfl)
      rw [lf_cons, st, ee, ← e2, erase_map, List.map_append]
      rfl
    · show (L[d] :: (F2 ++ L')).Perm L
      refine List.Perm.trans (List.Perm.cons _ q2) ?_
      exact erase_perm L d w1
    · have : c + 1 + n = c + (n + 1) := by omega
      rw [← this]
      exact P2
theorem core82 {cf : Nat → List Val → Hs → Out Val} {h h' : Hs} {r n : Nat} {VS WS LS : List Val} {s3 : Option Slot} (hn : n ≤ 1000) (lp : loopF (turnF cf (.v 3) [.appPop 5 4 (.call 13 [.var 0, .olen 4] [])]) (rngV 0 n) [some (.v (.ref r)), some (.v (.lst VS)), some (.v (.int n)), none, some (.own VS), some (.own [])] h =
      .ok .nxt [some (.v (.ref r)), some (.v (.lst VS)), some (.v (.int n)), s3, some (.own LS), some (.own WS)] h') : retOf (evSs cf d82.body [some (.v (.ref r)), some (.v (.lst VS)), some (.v (.int n)), none, none, none] h) = .ok (.lst WS) h' := by
  have e1 : evS cf (.parO [4, 5] [.o (.of (.var 1)), .o (.lst [])]) [some (.v (.ref r)), some (.v (.lst VS)), some (.v (.int n)), none, none, none] h = .ok .nxt [some (.v (.ref r)), some (.v (.lst VS)), some (.v (.int n)), none, some (.own VS), some (.own [])] h := by simp
  have it : evIt cf (.rng1 (.var 2)) [some (.v (.ref r)), some (.v (.lst VS)), some (.v (.int n)), none, some (.own VS), some (.own [])] h = .ok (rngV 0 n) h := i_rng1_ok (j := (n : Int)) rfl (rg_le (by omega)) (Int.toNat_natCast n)
  have e2 := (for_ok (tg := .v 3) (b := [.appPop 5 4 (.call 13 [.var 0, .olen 4] [])]) it).trans lp
  have e3 : evS cf (.frz 5) [some (.v (.ref r)), some (.v (.lst VS)), some (.v (.int n)), s3, some (.own LS), some (.own WS)] h' = .ok .nxt [some (.v (.ref r)), some (.v (.lst VS)), some (.v (.int n)), s3, some (.own LS), some (.v (.lst WS))] h' := by simp
  have e4 : evS cf (.ret (.var 5)) [some (.v (.ref r)), some (.v (.lst VS)), some (.v (.int n)), s3, some (.own LS), some (.v (.lst WS))] h' = .ok (.ret (.lst WS)) [some (.v (.ref r)), some (.v (.lst VS)), some (.v (.int n)), s3, some (.own LS), some (.v (.lst WS))] h' := by simp
  show retOf (evSs cf [_, _, _, _] _ h) = _
  rw [ss_ok e1, ss_ok e2, ss_ok e3, ss_ret e4]
  rfl
/-- so many of a pool -/
theorem m_some {α : Type} (f : α → Val) {k r c : Nat} {h : Hs} (P : Pot h r c) (L : List α) (n : Nat) (hc : c + n < 2 ^ 300) (hn : n ≤ L.length) (hl : L.length ≤ 1000) :
    ∃ (F L' : List α) (h' : Hs), callD U (k + 2) 82 [.ref r, .lst (L.map f), .int n] h = .ok (.lst (F.map f)) h' ∧ F.length = n ∧ (F ++ L').Perm L ∧ Pot h' r (c + n) ∧ h'.length = h.length := by
  obtain ⟨L', F2, h', s3', e, q1, q2, P2, l2⟩ := some_loop f (k := k) (r := r) (a1 := some (.v (.lst (L.map f)))) (a2 := some (.v (.int n))) n 0 L [] c h none P hc hn hl (by simp; omega)
  refine ⟨F2, L', h', ?_, q1, q2, P2, l2⟩
  rw [call_eq (d := d82) rfl rfl]
  exact core82 (by omega) e
end LT
set_option Elab.async false
set_option linter.all false
set_option maxRecDepth 100000
set_option maxHeartbeats 2000000
namespace LT
open PySem Pyi
/-! ### a drawn rule -/
def spotS (n w : Nat) : Step := (decide (n % 2 = 1), n / 2, w)
theorem spotS_spc (n w : Nat) : spc (spotS n w) = n := by
  show 2 * (n / 2) + bitB (decide (n % 2 = 1)) = n
  by_cases h : n % 2 = 1
  · rw [decide_eq_true h]
    show 2 * (n / 2) + 1 = n
    omega
  · rw [decide_eq_false h]
    show 2 * (n / 2) + 0 = n
    omega
theorem spotS_v (n w : Nat) : ∃ x : Val, atI [Val.str "from", Val.str "beyond"] ((n : Int) % 2) = some x ∧ stepV (spotS n w) = .tup [x, .int ((n : Int) / 2), .int w] := by
  have e2 : ((n : Int) / 2) = ((n / 2 : Nat) : Int) := (Int.natCast_ediv n 2).symm
  rcases Nat.mod_two_eq_zero_or_one n with h | h
  · have em : ((n : Int) % 2) = 0 := by omega
    refine ⟨.str "from", by rw [em]; rfl, ?_⟩
    rw [e2]
    show Val.tup [.str (T (wordL (decide (n % 2 = 1)))), .int ((n / 2 : Nat) : Int), .int w] = _
    rw [h, t_from]
    rfl
  · have em : ((n : Int) % 2) = 1 := by omega
    refine ⟨.str "beyond", by rw [em]; rfl, ?_⟩
    rw [e2]
    show Val.tup [.str (T (wordL (decide (n % 2 = 1)))), .int ((n / 2 : Nat) : Int), .int w] = _
    rw [h, t_beyond]
    rfl
abbrev loreB : List S := [.set 7 (.ite (.cmp .lt (.var 6) (.lit (.int 3))) (.bin .add (.var 7) (.call 13 [.var 0, .bin .add (.var 9) (.lit (.int 1))] [])) (.call 13 [.var 0, .bin .add (.bin .mul (.lit (.int 2)) (.var 9)) (.lit (.int 1))] [])), .app 8 (.tup [.idx (.fr (.lst [.lit (.str "from"), .lit (.str "beyond")])) (.bin .mod (.var 4) (.lit (.int 2))), .bin .fdiv (.var 4) (.lit (.int 2)), .var 7])]
theorem lore_step {cf : Nat → List Val → Hs → Out Val} {h h' : Hs} {a1 a2 a3 s4 a5 : Option Slot} {r way hi w d n : Nat} {SS : List Val} {x : Val} (hh : hi ≤ 60) (e : cf 13 [.ref r, .int ((if way < 3 then hi + 1 else 2 * hi + 1 : Nat) : Int)] h = .ok (.int d) h') (m : SS.length ≤ most) (ex : atI [Val.str "from", Val.str "beyond"] ((n : Int) % 2) = some x) :
    turnF cf (.v 4) loreB (.int n) [some (.v (.ref r)), a1, a2, a3, s4, a5, some (.v (.int way)), some (.v (.int w)), some (.own SS), some (.v (.int hi))] h =
      .ok .nxt [some (.v (.ref r)), a1, a2, a3, some (.v (.int n)), a5, some (.v (.int way)), some (.v (.int ((if way < 3 then w + d else d : Nat) : Int))), some (.own (SS ++ [.tup [x, .int ((n : Int) / 2), .int ((if way < 3 then w + d else d : Nat) : Int)]])), some (.v (.int hi))] h' := by
  have f2 := b_fdiv (i := (n : Int)) (j := 2) (by decide) (by decide +kernel)
  have m2 := b_mul (show sm 2 = true by decide +kernel) (sm_le (i := (hi : Int)) (by omega))
  have md := b_mod (i := (n : Int)) (j := 2) (by decide)
  by_cases hw : way < 3
  · rw [if_pos hw] at e ⊢
    have hw' : (way : Int) < 3 := by omega
    have e' : cf 13 [.ref r, .int ((hi : Int) + 1)] h = .ok (.int d) h' := e
    rw [Int.natCast_add]
    simp [turnF_eq, hw', e', md, ex, f2, m]
  · rw [if_neg hw] at e ⊢
    have hw' : ¬ (way : Int) < 3 := by omega
    have e' : cf 13 [.ref r, .int (2 * (hi : Int) + 1)] h = .ok (.int d) h' := by
      have q : ((2 * hi + 1 : Nat) : Int) = 2 * (hi : Int) + 1 := by omega
      rw [← q]
      exact e
    simp [turnF_eq, hw', e', md, ex, f2, m, m2]
theorem lore_loop {k r way hi : Nat} {a1 a2 a3 a5 : Option Slot} (hh : hi ≤ 60) : ∀ (sp : List Nat) (ds : List Step) (w c : Nat) (h : Hs) (s4 : Option Slot), Pot h r c → c + sp.length < 2 ^ 300 → ds.length + sp.length ≤ 1000 →
    ∃ (ss : List Step) (w' : Nat) (h' : Hs) (s4' : Option Slot), loopF (turnF (callD U (k + 1)) (.v 4) loreB) (sp.map fun n => Val.int (n : Nat)) [some (.v (.ref r)), a1, a2, a3, s4, a5, some (.v (.int way)), some (.v (.int w)), some (.own (ds.map stepV)), some (.v (.int hi))] h =
      .ok .nxt [some (.v (.ref r)), a1, a2, a3, s4', a5, some (.v (.int way)), some (.v (.int w')), some (.own ((ds ++ ss).map stepV)), some (.v (.int hi))] h' ∧ ss.map spc = sp ∧ (∀ s ∈ ss, s.2.2 ≤ w + 120 * sp.length ∧ s = spotS (spc s) s.2.2) ∧ w' ≤ w + 120 * sp.length ∧ Pot h' r (c + sp.length) ∧ h'.length = h.length
  | [], ds, w, c, h, s4, P, _, _ => ⟨[], w, h, s4, by rw [List.append_nil]; rfl, rfl, fun s hs => (by cases hs), by omega, P, rfl⟩
  | n :: sp, ds, w, c, h, s4, P, hc, hl => by
    rw [List.length_cons] at hc hl
    obtain ⟨d, h1, e1, w1, P1, l1⟩ := m_take (k := k) P (by omega) (if way < 3 then hi + 1 else 2 * hi + 1) (by split <;> omega) (Nat.lt_of_le_of_lt (show _ ≤ 1000 by split <;> omega) (by decide +kernel))
    obtain ⟨x, ex, vx⟩ := spotS_v n (if way < 3 then w + d else d)
    obtain ⟨ss, w', h2, s4', e2, q1, q2, q3, P2, l2⟩ := lore_loop (k := k) (r := r) (way := way) (hi := hi) (a1 := a1) (a2 := a2) (a3 := a3) (a5 := a5) hh sp (ds ++ [spotS n (if way < 3 then w + d else d)]) (if way < 3 then w + d else d) (c + 1) h1 (some (.v (.int n))) P1 (by omega) (by rw [List.length_append, List.length_singleton]; omega)
    have wb : (if way < 3 then w + d else d) ≤ w + 120 := by split at w1 <;> split <;> omega
    refine ⟨spotS n (if way < 3 then w + d else d) :: ss, w', h2, s4', ?_, by rw [List.map_cons, q1, spotS_spc], fun s hs => ?_, by rw [List.length_cons]; omega, ?_, by omega⟩
    · rw [List.map_cons, lf_cons, lore_step hh e1 (by rw [List.length_map]; exact lm (by omega)) ex, ← vx]
      have ee : ds ++ spotS n (if way < 3 then w + d else d) :: ss = (ds ++ [spotS n (if way < 3 then w + d else d)]) ++ ss := by simp
      rw [ee, ← e2, List.map_append]
      rfl
    · rw [List.length_cons]
      rcases List.mem_cons.mp hs with e | e
      · rw [e, spotS_spc]
        refine ⟨?_, rfl⟩
        show (if way < 3 then w + d else d) ≤ _
        omega
      · obtain ⟨g1, g2⟩ := q2 s e
        exact ⟨by omega, g2⟩
    · have : c + 1 + sp.length = c + (n :: sp).length := by rw [List.length_cons]; omega
      rw [← this]
      exact P2
theorem i_rng2_okH {cf : Nat → List Val → Hs → Out Val} {a b : E} {env : Pyi.Env} {h h1 h2 : Hs} {i j : Int} {n : Nat} (ea : evE cf a env h = .ok (.int i) h1) (eb : evE cf b env h1 = .ok (.int j) h2) (ri : rgOk i = true) (rj : rgOk j = true) (e : (j - i).toNat = n) : evIt cf (.rng2 a b) env h = .ok (rngV i n) h2 := by
  rw [i_rng2, ea]
  show ((evE cf b env h1).bind fun y h => (ofOpt (asI (.int i)) h).bind fun i h => (ofOpt (asI y) h).bind fun j h => if rgOk i && rgOk j then Out.ok (rngV i (j - i).toNat) h else .bad) = _
  rw [eb]
  show (if rgOk i && rgOk j then Out.ok (rngV i ((j - i).toNat)) h2 else .bad) = _
  rw [ri, rj, e]
  rfl
theorem core79 {cf : Nat → List Val → Hs → Out Val} {h0 h1 h2 h3 h4 h5 h6 h7 h8 : Hs} {r mb ms b0 way z lo t n hi w d : Nat} {m : Nat} {FV SV SS : List Val} {s4 : Option Slot} (hb : b0 < 60) (e1 : cf 13 [.ref r, .int mb] h0 = .ok (.int b0) h1) (e2 : cf 13 [.ref r, .int 4] h1 = .ok (.int way) h2) (e3 : cf 13 [.ref r, .int 9] h2 = .ok (.int z) h3)
    (elo : (2 - (if (z : Int) = 0 then 1 else 0) : Int) = lo) (hlo : lo ≤ 2) (em : m = 2 * (1 + b0) + 1 - lo) (e4 : cf 13 [.ref r, .int ((ms : Int) + 1)] h3 = .ok (.int t) h4) (en : n = min m t) (e5 : cf 82 [.ref r, .lst (rngV lo m), .int n] h4 = .ok (.lst FV) h5) (es : setL (.lst FV) = some SV)
    (e6 : cf 14 [.ref r, .lst [.int 1, .int 2, .int 3, .int 9, .int 60]] h5 = .ok (.int hi) h6)
    (lp : loopF (turnF cf (.v 4) loreB) SV [some (.v (.ref r)), some (.v (.int mb)), some (.v (.int ms)), some (.v (.lst SV)), none, some (.v (.int (1 + (b0 : Int)))), some (.v (.int way)), some (.v (.int 0)), some (.own []), some (.v (.int hi))] h6 =
      .ok .nxt [some (.v (.ref r)), some (.v (.int mb)), some (.v (.int ms)), some (.v (.lst SV)), s4, some (.v (.int (1 + (b0 : Int)))), some (.v (.int way)), some (.v (.int w)), some (.own SS), some (.v (.int hi))] h7)
    (hw : w ≤ 100000) (e7 : cf 13 [.ref r, .int ((max 1 (2 * w) : Nat) : Int)] h7 = .ok (.int d) h8) :
    retOf (evSs cf d79.body [some (.v (.ref r)), some (.v (.int mb)), some (.v (.int ms)), none, none, none, none, none, none, none] h0) = .ok (.dct [.str "box", .str "bound", .str "steps"] [.int (1 + (b0 : Int)), .int (1 + (d : Int)), .lst SS]) h8 := by
  have x1 : evS cf (.par [5, 6] [.bin .add (.lit (.int 1)) (.call 13 [.var 0, .var 1] []), .call 13 [.var 0, .lit (.int 4)] []]) [some (.v (.ref r)), some (.v (.int mb)), some (.v (.int ms)), none, none, none, none, none, none, none] h0 =
      .ok .nxt [some (.v (.ref r)), some (.v (.int mb)), some (.v (.int ms)), none, none, some (.v (.int (1 + (b0 : Int)))), some (.v (.int way)), none, none, none] h2 := by simp [e1, e2]
  have mlen : (rngV lo m).length = m := rngV_len m lo
  have mul2 := b_mul (show sm 2 = true by decide +kernel) (sm_le (i := 1 + (b0 : Int)) (by omega))
  have i2 : evIt cf (.rng2 (.bin .sub (.lit (.int 2)) (.bi .int_ [.cmp .eq (.call 13 [.var 0, .lit (.int 9)] []) (.lit (.int 0))])) (.bin .add (.bin .mul (.lit (.int 2)) (.var 5)) (.lit (.int 1)))) [some (.v (.ref r)), some (.v (.int mb)), some (.v (.int ms)), none, none, some (.v (.int (1 + (b0 : Int)))), some (.v (.int way)), none, none, none] h2 = .ok (rngV lo m) h3 := by
    refine i_rng2_okH (i := (lo : Int)) (j := 2 * (1 + (b0 : Int)) + 1) (h1 := h3) ?_ (by simp [mul2]) (rg_le (by omega)) (rg_le (by omega)) (by omega)
    rw [← elo]
    by_cases hz : (z : Int) = 0
    · simp [e3, hz]
    · simp [e3, hz]
  have x2 : evS cf (.set 3 (.fr (.ofIt (.rng2 (.bin .sub (.lit (.int 2)) (.bi .int_ [.cmp .eq (.call 13 [.var 0, .lit (.int 9)] []) (.lit (.int 0))])) (.bin .add (.bin .mul (.lit (.int 2)) (.var 5)) (.lit (.int 1))))))) [some (.v (.ref r)), some (.v (.int mb)), some (.v (.int ms)), none, none, some (.v (.int (1 + (b0 : Int)))), some (.v (.int way)), none, none, none] h2 =
      .ok .nxt [some (.v (.ref r)), some (.v (.int mb)), some (.v (.int ms)), some (.v (.lst (rngV lo m))), none, some (.v (.int (1 + (b0 : Int)))), some (.v (.int way)), none, none, none] h3 := by
    have ml : (rngV lo m).length ≤ most := by rw [mlen]; exact lm (by omega)
    rw [s_set_, e_fr, f_ofIt, i2]
    simp [ml]
  generalize hP : rngV (lo : Int) m = POOL at *
  have mi : (if t < POOL.length then (t : Int) else (POOL.length : Int)) = (n : Int) := by
    rw [mlen, en]
    split <;> omega
  have x3 : evS cf (.set 3 (.fr (.sset (.call 82 [.var 0, .var 3, .bi .min_ [.bi .len [.var 3], .call 13 [.var 0, .bin .add (.var 2) (.lit (.int 1))] []]] [])))) [some (.v (.ref r)), some (.v (.int mb)), some (.v (.int ms)), some (.v (.lst POOL)), none, some (.v (.int (1 + (b0 : Int)))), some (.v (.int way)), none, none, none] h3 =
      .ok .nxt [some (.v (.ref r)), some (.v (.int mb)), some (.v (.int ms)), some (.v (.lst SV)), none, some (.v (.int (1 + (b0 : Int)))), some (.v (.int way)), none, none, none] h5 := by
    simp [e4, e5, es, mi]
  have x4 : evS cf (.parO [7, 8, 9] [.v (.lit (.int 0)), .o (.lst []), .v (.call 14 [.var 0, .fr (.lst [.lit (.int 1), .lit (.int 2), .lit (.int 3), .lit (.int 9), .lit (.int 60)])] [])]) [some (.v (.ref r)), some (.v (.int mb)), some (.v (.int ms)), some (.v (.lst SV)), none, some (.v (.int (1 + (b0 : Int)))), some (.v (.int way)), none, none, none] h5 =
      .ok .nxt [some (.v (.ref r)), some (.v (.int mb)), some (.v (.int ms)), some (.v (.lst SV)), none, some (.v (.int (1 + (b0 : Int)))), some (.v (.int way)), some (.v (.int 0)), some (.own []), some (.v (.int hi))] h6 := by
    simp [e6]
  have x5 := (for_ok (cf := cf) (tg := .v 4) (it := .seq (.var 3)) (b := loreB) (env := [some (.v (.ref r)), some (.v (.int mb)), some (.v (.int ms)), some (.v (.lst SV)), none, some (.v (.int (1 + (b0 : Int)))), some (.v (.int way)), some (.v (.int 0)), some (.own []), some (.v (.int hi))]) (h := h6) (h' := h6) (xs := SV) (by simp [walksOf, itemsOf])).trans lp
  have mul3 := b_mul (show sm 2 = true by decide +kernel) (sm_of (i := (w : Int)) (Nat.lt_of_le_of_lt (show _ ≤ 100000 by rw [Int.natAbs_natCast]; exact hw) (by decide +kernel)))
  have mx : (if 1 < 2 * (w : Int) then 2 * (w : Int) else 1) = ((max 1 (2 * w) : Nat) : Int) := by
    split <;> omega
  have x7 : evE cf (.dsp [("box" : Str), ("bound" : Str), ("steps" : Str)] [.var 5, .bin .add (.lit (.int 1)) (.call 13 [.var 0, .bi .max_ [.lit (.int 1), .bin .mul (.lit (.int 2)) (.var 7)]] []), .var 8]) [some (.v (.ref r)), some (.v (.int mb)), some (.v (.int ms)), some (.v (.lst SV)), s4, some (.v (.int (1 + (b0 : Int)))), some (.v (.int way)), some (.v (.int w)), some (.v (.lst SS)), some (.v (.int hi))] h7 =
      .ok (.dct [.str "box", .str "bound", .str "steps"] [.int (1 + (b0 : Int)), .int (1 + (d : Int)), .lst SS]) h8 := by
    generalize ((max 1 (2 * w) : Nat) : Int) = M at *
    simp [mul3, mx, e7]
  show retOf (evSs cf [_, _, _, _, _, _, _] _ h0) = _
  rw [ss_ok x1, ss_ok x2, ss_ok x3, ss_ok x4, ss_ok x5, ss_ok (s := .frz 8) (by rw [s_frz_]; rfl)]
  refine (congrArg retOf (ss_rete x7)).trans ?_
  rfl
theorem ints_all : ∀ (l : List Int), intsOf (l.map Val.int) = some l
  | [] => rfl
  | i :: l => by
    show (intsOf (l.map Val.int)).map (i :: ·) = _
    rw [ints_all l]
    rfl
theorem sortI_len : ∀ (l : List Int), (sortI l).length ≤ l.length
  | [] => Nat.le_refl _
  | x :: l => by
    have ih := sortI_len l
    have ins : ∀ m : List Int, (insI x m).length ≤ m.length + 1 := fun m => by
      induction m with
      | nil => simp [insI]
      | cons y m ih =>
        unfold insI
        split
        · simp
        · split
          · simp
          · simp only [List.length_cons]
            omega
    have := ins (sortI l)
    show (insI x (sortI l)).length ≤ l.length + 1
    omega
theorem rngV_ints (n : Nat) : ∀ (lo : Nat), rngV (lo : Int) n = ((List.range' lo n).map fun (i : Nat) => (i : Int)).map Val.int := by
  induction n with
  | zero => intro lo; rfl
  | succ n ih =>
    intro lo
    show Val.int (lo : Int) :: rngV ((lo : Int) + 1) n = _
    have := ih (lo + 1)
    rw [List.range'_succ, List.map_cons, List.map_cons]
    congr 1
/-- a drawn rule -/
theorem m_lore {k r c : Nat} {h : Hs} (P : Pot h r c) (hc : c + 200 < 2 ^ 300) (mb ms : Nat) (hb0 : 1 ≤ mb) (hb : mb ≤ 60) (hs : ms ≤ 60) :
    ∃ (box bound : Nat) (ss : List Step) (h' : Hs), callD U (k + 3) 79 [.ref r, .int mb, .int ms] h = .ok (loreV box bound ss) h' ∧ Fine box bound ss ∧ box ≤ mb ∧ ss.length ≤ ms ∧ (∀ s ∈ ss, s.2.2 ≤ 7200) ∧ bound ≤ 14400 ∧ Pot h' r (c + 200) ∧ h'.length = h.length := by
  obtain ⟨b0, h1, e1, w1, P1, l1⟩ := m_take (k := k + 1) P (by omega) mb hb0 (Nat.lt_of_le_of_lt hb (by decide +kernel))
  obtain ⟨way, h2, e2, w2, P2, l2⟩ := m_take (k := k + 1) P1 (by omega) 4 (by decide) (by decide +kernel)
  obtain ⟨z, h3, e3, w3, P3, l3⟩ := m_take (k := k + 1) P2 (by omega) 9 (by decide) (by decide +kernel)
  obtain ⟨t, h4, e4, w4, P4, l4⟩ := m_take (k := k + 1) P3 (by omega) (ms + 1) (by omega) (Nat.lt_of_le_of_lt (show ms + 1 ≤ 1000 by omega) (by decide +kernel))
  obtain ⟨lo, elo, hlo, hlo1⟩ : ∃ lo : Nat, (2 - (if (z : Int) = 0 then 1 else 0) : Int) = lo ∧ lo ≤ 2 ∧ 1 ≤ lo := by
    by_cases hz : (z : Int) = 0
    · exact ⟨1, by rw [if_pos hz]; rfl, by decide, by decide⟩
    · exact ⟨2, by rw [if_neg hz]; rfl, by decide, by decide⟩
  let m := 2 * (1 + b0) + 1 - lo
  let pool : List Int := (List.range' lo m).map fun (i : Nat) => (i : Int)
  have plen : pool.length = m := by simp [pool]
  obtain ⟨F, L', h5, e5, q1, q2, P5, l5⟩ := m_some Val.int (k := k) P4 pool (min m t) (by omega) (by rw [plen]; omega) (by rw [plen]; show 2 * (1 + b0) + 1 - lo ≤ 1000; omega)
  have fm : ∀ x ∈ F, ∃ n : Nat, x = (n : Int) ∧ lo ≤ n ∧ n < lo + m := fun x hx => by
    have : x ∈ pool := q2.mem_iff.mp (List.mem_append_left _ hx)
    obtain ⟨n, hn, e⟩ := List.mem_map.mp this
    obtain ⟨a1, a2⟩ := List.mem_range'_1.mp hn
    exact ⟨n, e.symm, a1, a2⟩
  let sp : List Nat := (sortI F).map Int.toNat
  have spv : sp.map (fun n => Val.int (n : Nat)) = (sortI F).map Val.int := by
    show ((sortI F).map Int.toNat).map _ = _
    rw [List.map_map]
    refine List.map_congr_left fun x hx => ?_
    obtain ⟨n, e, _⟩ := fm x ((sortI_mem F x).mp hx)
    subst e
    rfl
  have splen : sp.length ≤ ms := by
    have a := sortI_len F
    show ((sortI F).map Int.toNat).length ≤ ms
    rw [List.length_map]
    omega
  have es : setL (.lst (F.map Val.int)) = some (sp.map fun n => Val.int (n : Nat)) := by
    show (intsOf (F.map Val.int)).bind (fun ns => if ns.length < 64 then some ((sortI ns).map Val.int) else none) = _
    rw [ints_all]
    show (if F.length < 64 then some ((sortI F).map Val.int) else none) = _
    rw [if_pos (by omega), spv]
  have sprng : ∀ n ∈ sp, lo ≤ n ∧ n < lo + m := fun n hn => by
    obtain ⟨x, hx, e⟩ := List.mem_map.mp hn
    obtain ⟨i, e2, a1, a2⟩ := fm x ((sortI_mem F x).mp hx)
    subst e2
    have e : i = n := e
    omega
  have spasc : sp.Pairwise (· < ·) := by
    have q := sortI_asc F
    show ((sortI F).map Int.toNat).Pairwise (· < ·)
    rw [List.pairwise_map]
    refine List.Pairwise.imp_of_mem (fun {a b} ha hb hab => ?_) q
    obtain ⟨i, e2, _⟩ := fm a ((sortI_mem F a).mp ha)
    obtain ⟨j, e3, _⟩ := fm b ((sortI_mem F b).mp hb)
    subst e2 e3
    have : (i : Int) < j := hab
    show i < j
    omega
  obtain ⟨x, v, h6, e6, w6, P6, l6⟩ := m_of (k := k) P5 (by omega) [.int 1, .int 2, .int 3, .int 9, .int 60] (by simp) (by decide +kernel)
  obtain ⟨hi, ex, x1⟩ : ∃ x : Nat, v = .int x ∧ x ≤ 60 := by
    match x, w6 with
    | 0, w6 => cases w6; exact ⟨1, rfl, by decide⟩
    | 1, w6 => cases w6; exact ⟨2, rfl, by decide⟩
    | 2, w6 => cases w6; exact ⟨3, rfl, by decide⟩
    | 3, w6 => cases w6; exact ⟨9, rfl, by decide⟩
    | 4, w6 => cases w6; exact ⟨60, rfl, by decide⟩
    | n + 5, w6 => cases w6
  subst ex
  obtain ⟨ss, w, h7, s4, lp, g1, g2, g3, P7, l7⟩ := lore_loop (k := k + 1) (r := r) (way := way) (hi := hi) (a1 := some (.v (.int mb))) (a2 := some (.v (.int ms))) (a3 := some (.v (.lst (sp.map fun n => Val.int (n : Nat))))) (a5 := some (.v (.int (1 + (b0 : Int))))) x1 sp [] 0 _ h6 none P6 (by omega) (by simp; omega)
  obtain ⟨d, h8, e8, w8, P8, l8⟩ := m_take (k := k + 1) P7 (by omega) (max 1 (2 * w)) (by omega) (Nat.lt_of_le_of_lt (show max 1 (2 * w) ≤ 100000 by omega) (by decide +kernel))
  refine ⟨1 + b0, 1 + d, ss, h8, ?_, ⟨by omega, by omega, by omega, by omega, fun s hs' => ?_, ?_⟩, by omega, ?_, fun s hs' => ?_, by omega, P8.mono (by omega), by omega⟩
  · rw [call_eq (d := d79) rfl rfl]
    have ec := core79 (cf := callD U (k + 2)) (mb := mb) (ms := ms) (n := min m t) (m := m) (FV := F.map Val.int) (SV := sp.map fun n => Val.int (n : Nat)) (SS := ss.map stepV) (s4 := s4) (by omega) e1 e2 e3 elo hlo rfl e4 rfl (by rw [rngV_ints]; exact e5) es e6 lp (by omega) e8
    refine ec.trans ?_
    unfold loreV
    rw [Int.natCast_add, Int.natCast_add]
    rfl
  · have hm : spc s ∈ sp := by rw [← g1]; exact List.mem_map_of_mem hs'
    obtain ⟨a1, a2⟩ := sprng _ hm
    obtain ⟨c1, c2⟩ := g2 s hs'
    have b1 : s.1 = decide (spc s % 2 = 1) := by
      have := congrArg (·.1) c2
      exact this
    have b2 : s.2.1 = spc s / 2 := by
      have := congrArg (·.2.1) c2
      exact this
    have a2 : spc s < lo + (2 * (1 + b0) + 1 - lo) := a2
    refine ⟨fun e => ?_, fun e => ?_, by omega⟩
    · rw [b1] at e
      have := of_decide_eq_false e
      omega
    · rw [b1] at e
      have := of_decide_eq_true e
      omega
  · have q : (ss.map spc).Pairwise (· < ·) := by rw [g1]; exact spasc
    exact List.pairwise_map.mp q
  · have q : (ss.map spc).length = sp.length := by rw [g1]
    rw [List.length_map] at q
    omega
  · have := (g2 s hs').1
    omega
end LT
set_option Elab.async false
set_option linter.all false
set_option maxRecDepth 100000
set_option maxHeartbeats 4000000
namespace LT
open PySem Pyi
/-! ### drawn lots of a box -/
/-- a lot as a dict -/
def kOf (l : List Thing) : List Val := l.map fun p => rv p.1
def vOf (l : List Thing) : List Val := l.map fun p => .int p.2
/-- so many of a size, in its place or at the end -/
def putT (l : List Thing) (q : Rat) (m : Nat) : List Thing := if (l.any fun p => decide (p.1 = q)) then l.map (fun p => if p.1 = q then (p.1, m) else p) else l ++ [(q, m)]
theorem any_k (l : List Thing) (q : Rat) : (kOf l).any (fun x => keyEq x (rv q)) = l.any fun p => decide (p.1 = q) := by
  unfold kOf
  rw [List.any_map]
  congr 1
  funext p
  exact key_rv p.1 q
theorem repl_v (l : List Thing) (q : Rat) (m : Nat) : repl (kOf l) (vOf l) (rv q) (.int m) = vOf (l.map fun p => if p.1 = q then (p.1, m) else p) := by
  induction l with
  | nil => rfl
  | cons p l ih =>
    show (if keyEq (rv p.1) (rv q) then Val.int m else Val.int p.2) :: repl (kOf l) (vOf l) (rv q) (.int m) = _
    rw [ih, key_rv]
    show _ = Val.int (if p.1 = q then (p.1, m) else p).2 :: _
    by_cases h : p.1 = q
    · simp [h, vOf]
    · simp [h, vOf]
theorem dput_T (l : List Thing) (q : Rat) (m : Nat) : dput (kOf l) (vOf l) (rv q) (.int m) = (kOf (putT l q m), vOf (putT l q m)) := by
  unfold dput putT
  rw [any_k]
  by_cases h : (l.any fun p => decide (p.1 = q)) = true
  · rw [if_pos h, if_pos h, repl_v]
    congr 1
    unfold kOf
    rw [List.map_map]
    refine List.map_congr_left fun p _ => ?_
    show rv p.1 = rv (if p.1 = q then (p.1, m) else p).1
    split <;> rfl
  · rw [if_neg h, if_neg h]
    simp [kOf, vOf]
theorem putT_len (l : List Thing) (q : Rat) (m : Nat) : (putT l q m).length ≤ l.length + 1 := by
  unfold putT
  split
  · rw [List.length_map]; omega
  · simp
theorem putT_fst (l : List Thing) (q : Rat) (m : Nat) : ((putT l q m).map (·.1)) = if (l.any fun p => decide (p.1 = q)) then l.map (·.1) else l.map (·.1) ++ [q] := by
  unfold putT
  by_cases h : (l.any fun p => decide (p.1 = q)) = true
  · rw [if_pos h, if_pos h, List.map_map]
    refine List.map_congr_left fun p _ => ?_
    show (if p.1 = q then (p.1, m) else p).1 = p.1
    split <;> rfl
  · rw [if_neg h, if_neg h, List.map_append]
    rfl
theorem putT_nd {l : List Thing} (h : (l.map (·.1)).Nodup) (q : Rat) (m : Nat) : ((putT l q m).map (·.1)).Nodup := by
  rw [putT_fst]
  by_cases ha : (l.any fun p => decide (p.1 = q)) = true
  · rw [if_pos ha]; exact h
  · rw [if_neg ha]
    refine List.nodup_append.mpr ⟨h, by simp, fun x hx y hy => ?_⟩
    rw [List.mem_singleton.mp hy]
    intro e
    obtain ⟨p, hp, ep⟩ := List.mem_map.mp hx
    exact ha (List.any_eq_true.mpr ⟨p, hp, decide_eq_true (ep.trans e)⟩)
theorem putT_gi {B : Nat} {l : List Thing} (h : ∀ p ∈ l, GI B p) {q : Rat} {m : Nat} (g : GI B (q, m)) : ∀ p ∈ putT l q m, GI B p := by
  intro p hp
  unfold putT at hp
  split at hp
  · obtain ⟨x, hx, e⟩ := List.mem_map.mp hp
    have gx := h x hx
    by_cases hq : x.1 = q
    · rw [if_pos hq] at e
      subst e
      exact ⟨gx.q, gx.pos, g.m0, g.mb⟩
    · rw [if_neg hq] at e
      subst e
      exact gx
  · rcases List.mem_append.mp hp with z | z
    · exact h p z
    · rw [List.mem_singleton.mp z]; exact g
theorem zip_it (l : List Thing) : zipV (kOf l) (vOf l) = l.map itV := by
  induction l with
  | nil => rfl
  | cons p l ih =>
    show Val.tup [rv p.1, .int p.2] :: zipV (kOf l) (vOf l) = _
    rw [ih]
    rfl
theorem putT_gb {B box : Nat} {l : List Thing} (h : ∀ p ∈ l, GB B box p) {q : Rat} {m : Nat} (g : GB B box (q, m)) : ∀ p ∈ putT l q m, GB B box p := by
  intro p hp
  refine ⟨putT_gi (fun x hx => (h x hx).gi) g.gi p hp, ?_⟩
  have hm : p.1 ∈ (putT l q m).map (·.1) := List.mem_map_of_mem hp
  rw [putT_fst] at hm
  split at hm
  · obtain ⟨x, hx, e⟩ := List.mem_map.mp hm
    have := (h x hx).le
    rw [← e]
    exact this
  · rcases List.mem_append.mp hm with z | z
    · obtain ⟨x, hx, e⟩ := List.mem_map.mp z
      have := (h x hx).le
      rw [← e]
      exact this
    · rw [List.mem_singleton.mp z]
      exact g.le
theorem lot_loop {k : Nat} {box : Nat} {r : Nat} {s2 : Option Slot} (hb : 0 < box) (hb2 : box < 2 ^ 10) : ∀ (n : Nat) (lo : Int) (l : List Thing) (c : Nat) (h : Hs) (s4 : Option Slot), Pot h r c → c + n * 7 + 10 < 2 ^ 300 → (∀ p ∈ l, GB 32 box p) → (l.map (·.1)).Nodup → l.length + n ≤ 1000 →
    ∃ (l' : List Thing) (h' : Hs) (s4' : Option Slot), loopF (turnF (callD U (k + 3)) (.v 4) [.dset 3 (.call 19 [.var 0, .var 1] []) (.bin .add (.lit (.int 1)) (.call 13 [.var 0, .call 14 [.var 0, .fr (.lst [.lit (.int 1), .lit (.int 3), .lit (.int 9), .lit (.int 1000)])] []] []))]) (rngV lo n)
      [some (.v (.ref r)), some (.v (.int box)), s2, some (.ownD (kOf l) (vOf l)), s4] h = .ok .nxt [some (.v (.ref r)), some (.v (.int box)), s2, some (.ownD (kOf l') (vOf l')), s4'] h' ∧
      Pot h' r (c + n * 7) ∧ h'.length = h.length ∧ (∀ p ∈ l', GB 32 box p) ∧ (l'.map (·.1)).Nodup ∧ l'.length ≤ l.length + n
  | 0, lo, l, c, h, s4, P, hc, g, nd, hl => ⟨l, h, s4, rfl, P, rfl, g, nd, Nat.le_refl _⟩
  | n + 1, lo, l, c, h, s4, P, hc, g, nd, hl => by
    obtain ⟨d, v, h1, e1, w1, P1, l1⟩ := m_of (k := k + 1) P (by omega) [.int 1, .int 3, .int 9, .int 1000] (by simp) (by decide +kernel)
    obtain ⟨x, ex, x0, x1⟩ : ∃ x : Nat, v = .int x ∧ 0 < x ∧ x ≤ 1000 := by
      match d, w1 with
      | 0, w3 => cases w3; exact ⟨1, rfl, by decide, by decide⟩
      | 1, w3 => cases w3; exact ⟨3, rfl, by decide, by decide⟩
      | 2, w3 => cases w3; exact ⟨9, rfl, by decide, by decide⟩
      | 3, w3 => cases w3; exact ⟨1000, rfl, by decide, by decide⟩
      | n + 4, w3 => cases w3
    subst ex
    obtain ⟨y, h2, e2, w2, P2, l2⟩ := m_take (k := k + 2) P1 (by omega) x x0 (lt_pw (m := 10) (by omega) (by decide))
    obtain ⟨q, h3, e3, zq, P3, l3⟩ := m_size_le (k := k) P2 (by omega) box hb hb2
    have gb : 1 + y < 2 ^ 32 := lt_pw (m := 11) (by omega) (by decide)
    have gq : GB 32 box (q, 1 + y) := ⟨⟨zq.qq, zq.pos, by show 0 < 1 + y; omega, gb⟩, zq.le⟩
    obtain ⟨l', h', s4', e', P', lh, g', nd', le'⟩ := lot_loop (k := k) hb hb2 n (lo + 1) (putT l q (1 + y)) (c + 7) h3 (some (.v (.int lo))) (P3.mono (by omega)) (by omega) (putT_gb g gq) (putT_nd nd q _) (by have := putT_len l q (1 + y); omega)
    refine ⟨l', h', s4', ?_, P'.mono (by omega), by omega, g', nd', by have := putT_len l q (1 + y); omega⟩
    have kt : keyT (rv q) = true := rfl
    have ml : (kOf l).length ≤ most := by
      unfold kOf
      rw [List.length_map]
      exact Nat.le_trans (show l.length ≤ 1000 by omega) (by decide)
    have dp := dput_T l q (1 + y)
    rw [Int.natCast_add] at dp
    have c1 : ((1 : Nat) : Int) = 1 := rfl
    rw [c1] at dp
    rw [← e']
    show loopF _ (.int lo :: rngV (lo + 1) n) _ _ = _
    rw [lf_cons]
    simp [turnF_eq, e1, e2, e3, kt, ml, dp]
theorem m_lot {k : Nat} {h : Hs} {r c : Nat} (P : Pot h r c) (box lim : Nat) (hc : c + 7 * lim + 20 < 2 ^ 300) (hl : lim ≤ 100) (hb : 0 < box) (hb2 : box < 2 ^ 10) :
    ∃ (l : List Thing) (h' : Hs), callD U (k + 4) 20 [.ref r, .int box, .int lim] h = .ok (lotV l) h' ∧ Pot h' r (c + 7 * lim + 1) ∧ h'.length = h.length ∧ (∀ p ∈ l, GB 32 box p) ∧ (l.map (·.1)).Nodup ∧ l.length ≤ lim := by
  obtain ⟨d, h1, e1, w1, P1, l1⟩ := m_take (k := k + 2) P (by omega) (lim + 1) (by omega) (lt_pw (m := 10) (by omega) (by decide))
  obtain ⟨l, h', s4, e2, P2, l2, g, nd, le⟩ := lot_loop (k := k) (s2 := some (.v (.int lim))) hb hb2 d 0 [] (c + 1) h1 none P1 (by omega) (fun p hp => by simp at hp) (by simp) (by simp; omega)
  refine ⟨l, h', ?_, P2.mono (by omega), by omega, g, nd, by simp at le; omega⟩
  have ro : rgOk (d : Int) = true := by
    unfold rgOk
    have t1 : (101 : Int) < 2 ^ 62 := by decide
    have t2 : (0 : Int) < 2 ^ 62 := by decide
    rw [Bool.and_eq_true]
    exact ⟨decide_eq_true (by omega), decide_eq_true (by omega)⟩
  have k0 : kOf [] = [] := rfl
  have v0 : vOf [] = [] := rfl
  rw [k0, v0] at e2
  have e1' : callD U (k + 3) 13 [.ref r, .int ((lim : Int) + 1)] h = .ok (.int d) h1 := e1
  rw [call_eq (d := d20) rfl rfl]
  simp [d20, start_eq, e1', ro, e2, zip_it, lotV]
/-! ### the last step that a size reaches -/
theorem spR_from {q : Rat} (h0 : 0 ≤ q.num) (p : Nat) : 2 * p ≤ spR q ↔ (p : Int) * q.den ≤ q.num := by
  obtain ⟨a, ea⟩ := Int.eq_ofNat_of_zero_le h0
  have dp := q.den_pos
  unfold spR
  rw [ea, Int.toNat_natCast]
  have b1 : bitB (decide (0 < a % q.den)) ≤ 1 := by unfold bitB; split <;> omega
  have e : 2 * p ≤ 2 * (a / q.den) + bitB (decide (0 < a % q.den)) ↔ p ≤ a / q.den := by omega
  rw [e, Nat.le_div_iff_mul_le dp, ← Int.natCast_mul]
  exact Int.ofNat_le.symm
theorem spR_beyond {q : Rat} (h0 : 0 ≤ q.num) (p : Nat) : 2 * p + 1 ≤ spR q ↔ (p : Int) * q.den < q.num := by
  obtain ⟨a, ea⟩ := Int.eq_ofNat_of_zero_le h0
  have dp := q.den_pos
  unfold spR
  rw [ea, Int.toNat_natCast, ← Int.natCast_mul]
  have md := Nat.div_add_mod a q.den
  have ml := Nat.mod_lt a dp
  have q2 : p * q.den < a ↔ 2 * p + 1 ≤ 2 * (a / q.den) + bitB (decide (0 < a % q.den)) := by
    by_cases hm : 0 < a % q.den
    · rw [decide_eq_true hm]
      have b : bitB true = 1 := rfl
      rw [b]
      constructor
      · intro h
        have : p ≤ a / q.den := by
          have h1 : p * q.den < (a / q.den + 1) * q.den := by
            rw [Nat.add_mul, Nat.one_mul, Nat.mul_comm (a / q.den)]
            omega
          have := Nat.lt_of_mul_lt_mul_right h1
          omega
        omega
      · intro h
        have h1 : p * q.den ≤ (a / q.den) * q.den := Nat.mul_le_mul_right _ (by omega)
        rw [Nat.mul_comm (a / q.den)] at h1
        omega
    · rw [decide_eq_false hm]
      have b : bitB false = 0 := rfl
      rw [b]
      constructor
      · intro h
        have h1 : p * q.den < (a / q.den) * q.den := by
          rw [Nat.mul_comm (a / q.den)]
          omega
        have := Nat.lt_of_mul_lt_mul_right h1
        omega
      · intro h
        have h1 : (p + 1) * q.den ≤ (a / q.den) * q.den := Nat.mul_le_mul_right _ (by omega)
        rw [Nat.add_mul, Nat.one_mul, Nat.mul_comm (a / q.den)] at h1
        omega
  rw [← q2]
  exact Int.ofNat_lt.symm
def lastW (s : Nat) : Nat → List Step → Nat
  | w, [] => w
  | w, t :: ss => lastW s (if spc t ≤ s then t.2.2 else w) ss
theorem lastW_eq (s : Nat) : ∀ (ss : List Step) (w : Nat), lastW s w ss = ((upto ss s).map (·.2.2)).getLastD w
  | [], w => rfl
  | t :: ss, w => by
    unfold lastW
    rw [lastW_eq s ss]
    unfold upto
    by_cases h : spc t ≤ s
    · rw [if_pos h, List.filter_cons_of_pos (p := fun t => decide (spc t ≤ s)) (decide_eq_true h), List.map_cons, List.getLastD_cons]
    · rw [if_neg h, List.filter_cons_of_neg (p := fun t => decide (spc t ≤ s)) (by simpa using h)]
abbrev reachB : List S := [.if_ (.or_ (.cmp .gt (.var 6) (.bin .mul (.var 4) (.var 7))) (.and_ (.cmp .eq (.var 3) (.lit (.str "from"))) (.cmp .eq (.var 6) (.bin .mul (.var 4) (.var 7))))) [.set 2 (.var 5)] []]
theorem reach_step {cf : Nat → List Val → Hs → Out Val} {h : Hs} {a0 a1 s3 s4 s5 : Option Slot} {w : Nat} {q : Rat} {n box : Nat} (z : Sz n box q) (hn : n ≤ 600) (t : Step) (ht : t.2.1 ≤ 60) :
    turnF cf (.t [.v 3, .v 4, .v 5]) reachB (stepV t) [a0, a1, some (.v (.int w)), s3, s4, s5, some (.v (.int q.num)), some (.v (.int q.den))] h =
      .ok .nxt [a0, a1, some (.v (.int ((if spc t ≤ spR q then t.2.2 else w : Nat) : Int))), some (.v (.str (T (wordL t.1)))), some (.v (.int t.2.1)), some (.v (.int t.2.2)), some (.v (.int q.num)), some (.v (.int q.den))] h := by
  obtain ⟨b, p, v⟩ := t
  have ht : p ≤ 60 := ht
  have m := b_mul (sm_le (i := (p : Int)) (by omega)) (z.qq.sd.sm (by omega))
  have e := eq_S (a := wordL b) (b := wFrom) (by cases b <;> exact ok_of (by decide)) (ok_of (by decide))
  rw [← t_from] at e
  have sv : stepV (b, p, v) = .tup [.str (T (wordL b)), .int p, .int v] := rfl
  rw [sv]
  have h1 := spR_from z.qq.nn p
  have h2 := spR_beyond z.qq.nn p
  generalize spR q = s at *
  generalize q.num = a at *
  generalize hd : (q.den : Int) = d at *
  cases b with
  | true =>
    have e' : cmpop .eq (.str (T (wordL true))) (.str ("from" : Str)) = some false := e.trans (by decide +kernel)
    have vs : spc (true, p, v) = 2 * p + 1 := rfl
    rw [vs]
    by_cases hc : (p : Int) * d < a
    · rw [if_pos (h2.mpr hc)]
      simp [turnF_eq, m, hc]
    · rw [if_neg (fun z => hc (h2.mp z))]
      simp [turnF_eq, m, hc, e']
  | false =>
    have e' : cmpop .eq (.str (T (wordL false))) (.str ("from" : Str)) = some true := e
    have vs : spc (false, p, v) = 2 * p := rfl
    rw [vs]
    by_cases hc : (p : Int) * d < a
    · rw [if_pos (h1.mpr (Int.le_of_lt hc))]
      simp [turnF_eq, m, hc]
    · by_cases he : a = (p : Int) * d
      · rw [if_pos (h1.mpr (by omega))]
        simp [turnF_eq, m, hc, e', he]
      · rw [if_neg (fun z => by have := h1.mp z; omega)]
        simp [turnF_eq, m, hc, e', he]
theorem reach_loop {cf : Nat → List Val → Hs → Out Val} {h : Hs} {a0 a1 : Option Slot} {q : Rat} {n box : Nat} (z : Sz n box q) (hn : n ≤ 600) : ∀ (ss : List Step) (w : Nat) (s3 s4 s5 : Option Slot), (∀ t ∈ ss, t.2.1 ≤ 60) →
    ∃ t3 t4 t5, loopF (turnF cf (.t [.v 3, .v 4, .v 5]) reachB) (ss.map stepV) [a0, a1, some (.v (.int w)), s3, s4, s5, some (.v (.int q.num)), some (.v (.int q.den))] h =
      .ok .nxt [a0, a1, some (.v (.int (lastW (spR q) w ss))), t3, t4, t5, some (.v (.int q.num)), some (.v (.int q.den))] h
  | [], w, s3, s4, s5, _ => ⟨s3, s4, s5, rfl⟩
  | t :: ss, w, s3, s4, s5, hs => by
    obtain ⟨t3, t4, t5, e⟩ := reach_loop (cf := cf) (h := h) (a0 := a0) (a1 := a1) z hn ss (if spc t ≤ spR q then t.2.2 else w) (some (.v (.str (T (wordL t.1))))) (some (.v (.int t.2.1))) (some (.v (.int t.2.2))) (fun x hx => hs x (List.mem_cons_of_mem _ hx))
    refine ⟨t3, t4, t5, ?_⟩
    rw [List.map_cons, lf_cons, reach_step z hn t (hs t List.mem_cons_self)]
    exact e
theorem Fine.p60 {box bound : Nat} {ss : List Step} (f : Fine box bound ss) : ∀ t ∈ ss, t.2.1 ≤ 60 := fun t ht => by
  have b2 := f.b2
  obtain ⟨q1, q2, _⟩ := f.st t ht
  cases hb : t.1 with
  | false => have := (q1 hb).2; omega
  | true => have := q2 hb; omega
theorem m_reached {k : Nat} {h : Hs} {box bound n : Nat} {ss : List Step} {q : Rat} (f : Fine box bound ss) (z : Sz n box q) (hn : n ≤ 600) : callD U (k + 1) 80 [loreV box bound ss, rv q] h = .ok (.int (wAt ss (spR q))) h := by
  rw [call_eq (d := d80) rfl rfl]
  obtain ⟨t3, t4, t5, lp⟩ := reach_loop (cf := callD U k) (h := h) (a0 := some (.v (loreV box bound ss))) (a1 := some (.v (rv q))) z hn ss 0 none none none f.p60
  have g := g_steps (h := h) (box := box) (bound := bound) (ss := ss)
  have wl : lastW (spR q) 0 ss = wAt ss (spR q) := by
    rw [lastW_eq, wAt_last f.asc (fun t ht => (f.spc t ht).1)]
  rw [wl] at lp
  have c0 : ((0 : Nat) : Int) = 0 := rfl
  rw [c0] at lp
  have er : rv q = .tup [.int q.num, .int q.den] := rfl
  rw [er] at lp ⊢
  generalize loreV box bound ss = V at *
  generalize callD U k = cf at *
  have x1 : evS cf (.tset (.t [.v 2, .t [.v 6, .v 7]]) (.tup [.lit (.int 0), .var 1])) [some (.v V), some (.v (.tup [.int q.num, .int q.den])), none, none, none, none, none, none] h = .ok .nxt [some (.v V), some (.v (.tup [.int q.num, .int q.den])), some (.v (.int 0)), none, none, none, some (.v (.int q.num)), some (.v (.int q.den))] h := by simp
  have x2 := (for_ok (cf := cf) (tg := .t [.v 3, .v 4, .v 5]) (it := .seq (.idx (.var 0) (.lit (.str "steps")))) (b := reachB) (env := [some (.v V), some (.v (.tup [.int q.num, .int q.den])), some (.v (.int 0)), none, none, none, some (.v (.int q.num)), some (.v (.int q.den))]) (h := h) (h' := h) (xs := ss.map stepV) (by simp [g])).trans lp
  show retOf (evSs cf [_, _, _] [some (.v V), some (.v (.tup [.int q.num, .int q.den])), none, none, none, none, none, none] h) = _
  rw [ss_ok x1, ss_ok x2]
  refine (congrArg retOf (ss_rete (h' := h) (v := .int (wAt ss (spR q))) (by simp))).trans ?_
  rfl
/-! ### rounded up, written -/
theorem up_eq (a : Nat) {b : Nat} (hb : 0 < b) : ((a : Int) + b - 1) / (b : Int) = -((-(a : Int)) / b) := by
  have b0 : (b : Int) ≠ 0 := by omega
  have h1 := Int.emod_add_mul_ediv (-(a : Int)) b
  have h2 := Int.emod_nonneg (-(a : Int)) b0
  have h3 := Int.emod_lt_of_pos (-(a : Int)) (show (0 : Int) < b by omega)
  have e : (a : Int) + b - 1 = ((b : Int) - 1 - (-(a : Int)) % b) + b * (-((-(a : Int)) / b)) := by
    rw [Int.mul_neg]
    omega
  rw [e, Int.add_mul_ediv_left _ _ b0, Int.ediv_eq_zero_of_lt (by omega) (by omega)]
  omega
theorem m_up {k : Nat} {h : Hs} {a b : Nat} (hb : 0 < b) (hb2 : b < 2 ^ 1300) : callD U (k + 1) 81 [.int a, .int b] h = .ok (.int (-((-(a : Int)) / b))) h := by
  rw [call_eq (d := d81) rfl rfl]
  have f := b_fdiv (i := (a : Int) + b - 1) (j := (b : Int)) (by omega) (den9 hb2)
  rw [up_eq a hb] at f
  simp [d81, start_eq, f]
theorem sOk_app {x y : Str} (h1 : sOk x = true) (h2 : sOk y = true) : sOk (x ++ y) = true := by
  unfold sOk at *
  have e : (x ++ y).cps = x.cps ++ y.cps := rfl
  rw [e, Array.all_append, h1, h2]
  rfl
theorem sOk_str (s : String) : sOk (Str.ofString s) = true := by
  rw [Str.ofString_eq_toList]
  unfold sOk
  rw [Array.all_eq_true']
  intro c hc
  have hc' : c ∈ s.toList.map Char.toNat := by simpa using hc
  obtain ⟨a, _, ea⟩ := List.mem_map.mp hc'
  subst ea
  have v : a.val.toNat < 0xd800 ∨ (0xdfff < a.val.toNat ∧ a.val.toNat < 0x110000) := a.valid
  have e : a.toNat = a.val.toNat := rfl
  exact decide_eq_true (by rw [e]; omega)
/-- an int that is written -/
theorem repr_int {i : Int} (h : i.natAbs < 2 ^ 1900) : ∃ s, reprOf (.int i) = some s ∧ sOk s = true := by
  refine ⟨(toD (.int i)).shown, if_pos ?_, ?_⟩
  · have e3 : showI (.int i) = true := decide_eq_true h
    have e4 : decide (wt (.int i) ≤ 10000000) = true := rfl
    rw [e3, e4]
    rfl
  · exact sOk_str _
theorem ne_txt {s : Str} (h : sOk s = true) : cmpop .ne (.str s) (.str s) = some false := by
  have pl : plainV (.str s) = true := by
    show (true && sOk s) = true
    rw [h]
    rfl
  rw [c_ne pl pl]
  show some (!(s == s)) = _
  simp
/-! ### lots cut -/
theorem lot_len (l : List Thing) : lenV (lotV l) = some (.int l.length) := by
  unfold lotV
  simp
theorem lot_rev (l : List Thing) : getR (lotV l) = some (lotV l.reverse) := by
  unfold lotV
  simp [List.map_reverse]
theorem lot_it (l : List Thing) : itemsOf (lotV l) = some (l.map itV) := rfl
theorem cut_lo {α : Type} (xs : List α) (n : Nat) (hn : n ≤ xs.length) : cut xs none (some (n : Int)) = xs.take n := by
  show (xs.drop 0).take ((if (n : Int) < 0 then ((n : Int) + (xs.length : Int)).toNat else min (n : Int).toNat xs.length) - 0) = _
  rw [if_neg (by omega), Nat.sub_zero, List.drop_zero, Int.toNat_natCast, Nat.min_eq_left hn]
theorem cut_hi {α : Type} (xs : List α) (n : Nat) (hn : n ≤ xs.length) : cut xs (some (n : Int)) none = xs.drop n := by
  have e : sIx xs.length 0 (some (n : Int)) = n := by
    show (if (n : Int) < 0 then ((n : Int) + (xs.length : Int)).toNat else min (n : Int).toNat xs.length) = n
    rw [if_neg (by omega), Int.toNat_natCast, Nat.min_eq_left hn]
  show (xs.drop (sIx xs.length 0 (some (n : Int)))).take (xs.length - sIx xs.length 0 (some (n : Int))) = _
  rw [e, List.take_of_length_le (by rw [List.length_drop]; exact Nat.le_refl _)]
theorem cut_1 {α : Type} (xs : List α) : cut xs none (some 1) = xs.take 1 := by
  cases xs with
  | nil => rfl
  | cons x xs => exact cut_lo (x :: xs) 1 (by simp)
theorem lot_lo (l : List Thing) (n : Nat) (hn : n ≤ l.length) : getS (lotV l) none (some (n : Int)) = some (lotV (l.take n)) := by
  unfold lotV
  rw [slc_t, cut_lo _ _ (by rw [List.length_map]; exact hn), List.map_take]
theorem lot_hi (l : List Thing) (n : Nat) (hn : n ≤ l.length) : getS (lotV l) (some (n : Int)) none = some (lotV (l.drop n)) := by
  unfold lotV
  rw [slc_t, cut_hi _ _ (by rw [List.length_map]; exact hn), List.map_drop]
end LT
set_option Elab.async false
set_option linter.all false
set_option maxRecDepth 100000
set_option maxHeartbeats 4000000
namespace LT
open PySem Pyi
abbrev b04T : List S := [.set 7 (.call 19 [.var 0, .idx (.var 2) (.lit (.str "box"))] []), .if_ (.cmp .ne (.bi .repr [.meth 47 (.var 3) [.var 7] []]) (.bi .repr [.call 80 [.var 2, .var 7] []])) [.ret (.lit (.bl false))] []]
abbrev b04L : List S := [.set 8 (.bi .sum [.fr (.comp (.bin .mul (.call 80 [.var 2, .var 7] []) (.var 11)) (.t [.v 7, .v 11]) (.seq (.var 6)) [])]), .if_ (.or_ (.cmp .ne (.bi .repr [.meth 49 (.var 3) [.var 6] []]) (.bi .repr [.var 8])) (.cmp .ne (.bi .repr [.meth 50 (.var 3) [.var 6] []]) (.bi .repr [.call 81 [.var 8, .idx (.var 2) (.lit (.str "bound"))] []]))) [.ret (.lit (.bl false))] [], .set 9 (.call 13 [.var 0, .bin .add (.bi .len [.var 6]) (.lit (.int 1))] []), .set 10 (.meth 49 (.var 3) [.slc (.var 6) none (some (.var 9))] []), .if_ (.or_ (.cmp .ne (.meth 49 (.var 3) [.rev (.var 6)] []) (.var 8)) (.cmp .ne (.bin .add (.var 10) (.meth 49 (.var 3) [.slc (.var 6) (some (.var 9)) none] [])) (.var 8))) [.ret (.lit (.bl false))] []]
abbrev b04 : List S := [.set 2 (.call 79 [.var 0, .call 14 [.var 0, .fr (.lst [.lit (.int 3), .lit (.int 12), .lit (.int 60)])] [], .call 14 [.var 0, .fr (.lst [.lit (.int 3), .lit (.int 8), .lit (.int 20)])] []] []), .set 3 (.call 66 [.var 2] []), .for_ (.v 4) (.rng1 (.lit (.int 16))) b04T, .set 5 (.fr (.cat (.fr (.comp (.call 20 [.var 0, .idx (.var 2) (.lit (.str "box")), .lit (.int 8)] []) (.v 4) (.rng1 (.lit (.int 4))) [])) (.fr (.lst [.tup [], .tup [.tup [.tup [.idx (.var 2) (.lit (.str "box")), .lit (.int 1)], .lit (.int 3)]]])))), .for_ (.v 6) (.seq (.var 5)) b04L]
theorem d78_eq : d78.body = [.for_ (.v 1) (.rng1 (.lit (.int 3))) b04, .ret (.lit (.bl true))] := rfl
theorem step04T {cf : Nat → List Val → Hs → Out Val} {h h' : Hs} {s1 s4 s5 s6 s7 s8 s9 s10 s11 : Option Slot} {r : Nat} {LV RV QV v : Val} {B w : Int} {tx : Str} (hb : getH h LV (.str "box") = some (.int B)) (e1 : cf 19 [.ref r, .int B] h = .ok QV h') (e2 : cf 47 [RV, QV] h' = .ok (.int w) h') (e3 : cf 80 [LV, QV] h' = .ok (.int w) h') (er : reprOf (.int w) = some tx) (ne : cmpop .ne (.str tx) (.str tx) = some false) :
    turnF cf (.v 4) b04T v [some (.v (.ref r)), s1, some (.v LV), some (.v RV), s4, s5, s6, s7, s8, s9, s10, s11] h = .ok .nxt [some (.v (.ref r)), s1, some (.v LV), some (.v RV), some (.v v), s5, s6, some (.v QV), s8, s9, s10, s11] h' := by
  simp [turnF_eq, hb, e1, e2, e3, er, ne]
theorem wAt_big {box bound : Nat} {ss : List Step} (f : Fine box bound ss) : ∀ s, wAt ss s < 1000000000 := wAt_bound (fun s hs => by have := (f.st s hs).2.2; omega) (by decide)
theorem pw100 : 1000000000 < 2 ^ 100 := by decide
theorem loop04T {k r box bound : Nat} {ss : List Step} (f : Fine box bound ss) {s1 s5 s6 s8 s9 s10 s11 : Option Slot} : ∀ (n : Nat) (lo : Int) (c : Nat) (h : Hs) (s4 s7 : Option Slot), Pot h r c → c + 5 * n + 20 < 2 ^ 300 →
    ∃ (h' : Hs) (t4 t7 : Option Slot), loopF (turnF (callD U (k + 6)) (.v 4) b04T) (rngV lo n) [some (.v (.ref r)), s1, some (.v (loreV box bound ss)), some (.v (ruleV (textL box bound ss) box bound ss)), s4, s5, s6, s7, s8, s9, s10, s11] h =
      .ok .nxt [some (.v (.ref r)), s1, some (.v (loreV box bound ss)), some (.v (ruleV (textL box bound ss) box bound ss)), t4, s5, s6, t7, s8, s9, s10, s11] h' ∧ Pot h' r (c + 5 * n) ∧ h'.length = h.length
  | 0, lo, c, h, s4, s7, P, _ => ⟨h, s4, s7, rfl, P, rfl⟩
  | n + 1, lo, c, h, s4, s7, P, hc => by
    have b1 := f.b1
    have b2 := f.b2
    obtain ⟨q, h1, e1, z, P1, l1⟩ := m_size_le (k := k + 3) P (by omega) box (by omega) (by omega)
    have e2 := m_worth (k := k + 1) (h := h1) (l := textL box bound ss) (bound := bound) (ss := ss) z (by decide) (by omega)
    have e3 := m_reached (k := k + 5) (h := h1) f z (by decide)
    obtain ⟨tx, er, ok⟩ := repr_int (i := (wAt ss (spR q) : Nat)) (by rw [Int.natAbs_natCast]; exact Nat.lt_trans (wAt_big f _) (by decide +kernel))
    obtain ⟨h', t4, t7, e4, P4, l4⟩ := loop04T (k := k) f (s1 := s1) (s5 := s5) (s6 := s6) (s8 := s8) (s9 := s9) (s10 := s10) (s11 := s11) n (lo + 1) (c + 5) h1 (some (.v (.int lo))) (some (.v (rv q))) P1 (by omega)
    refine ⟨h', t4, t7, ?_, P4.mono (by omega), by omega⟩
    show loopF _ (.int lo :: rngV (lo + 1) n) _ _ = _
    rw [lf_cons, step04T g_box e1 e2 e3 er (ne_txt ok)]
    exact e4
/-- a lot that may be asked -/
structure Lot (box : Nat) (l : List Thing) : Prop where
  g : ∀ p ∈ l, GB 32 box p
  nd : (l.map (·.1)).Nodup
  len : l.length ≤ 8
theorem lots04 {k r box : Nat} {LV : Val} {s1 s3 s4 s5 s6 s7 s8 s9 s10 s11 : Option Slot} (hb1 : 1 ≤ box) (hb2 : box ≤ 60) (hg : ∀ h : Hs, getH h LV (.str "box") = some (.int box)) : ∀ (n : Nat) (lo : Int) (c : Nat) (h : Hs), Pot h r c → c + 57 * n + 100 < 2 ^ 300 →
    ∃ (ls : List (List Thing)) (h' : Hs), mapF (turnC (callD U (k + 4)) [some (.v (.ref r)), s1, some (.v LV), s3, s4, s5, s6, s7, s8, s9, s10, s11] (.v 4) [] (.call 20 [.var 0, .idx (.var 2) (.lit (.str "box")), .lit (.int 8)] [])) (rngV lo n) h = .ok (ls.map lotV) h' ∧ (∀ l ∈ ls, Lot box l) ∧ ls.length = n ∧ Pot h' r (c + 57 * n) ∧ h'.length = h.length
  | 0, lo, c, h, P, _ => ⟨[], h, rfl, fun l hl => (by cases hl), rfl, P, rfl⟩
  | n + 1, lo, c, h, P, hc => by
    obtain ⟨l, h1, e1, P1, l1, g, nd, le⟩ := m_lot (k := k) P box 8 (by omega) (by decide) (by omega) (by omega)
    obtain ⟨ls, h', e2, q1, q2, P2, l2⟩ := lots04 (k := k) (s1 := s1) (s3 := s3) (s4 := s4) (s5 := s5) (s6 := s6) (s7 := s7) (s8 := s8) (s9 := s9) (s10 := s10) (s11 := s11) hb1 hb2 hg n (lo + 1) (c + 57) h1 (P1.mono (by omega)) (by omega)
    refine ⟨l :: ls, h', ?_, fun x hx => ?_, by rw [List.length_cons, q2], P2.mono (by omega), by omega⟩
    · show mapF _ (.int lo :: rngV (lo + 1) n) h = _
      have e1' : callD U (k + 4) 20 [.ref r, .int box, .int 8] h = .ok (lotV l) h1 := e1
      have st : turnC (callD U (k + 4)) [some (.v (.ref r)), s1, some (.v LV), s3, s4, s5, s6, s7, s8, s9, s10, s11] (.v 4) [] (.call 20 [.var 0, .idx (.var 2) (.lit (.str "box")), .lit (.int 8)] []) (.int lo) h = .ok (some (lotV l)) h1 := by
        simp [turnC_eq, hg h, e1']
      rw [mf_cons, st]
      show (mapF _ (rngV (lo + 1) n) h1).bind _ = _
      rw [e2]
      rfl
    · rcases List.mem_cons.mp hx with e | e
      · subst e
        exact ⟨g, nd, le⟩
      · exact q1 x e
theorem step04L {cf : Nat → List Val → Hs → Out Val} {h h' : Hs} {s1 s4 s5 s6 s7 s8 s9 s10 s11 : Option Slot} {r n : Nat} {LV RV LT1 LT2 LT3 LT4 : Val} {WS IT : List Val} {B D bd A1 A2 : Int} {t1 t2 : Str} {at' : Int}
    (hi : itemsOf LT1 = some IT) (hw : walksOf LT1 = some IT) (hl : lenV LT1 = some (.int n)) (ml : IT.length ≤ most) (hc : mapF (turnC cf [some (.v (.ref r)), s1, some (.v LV), some (.v RV), s4, s5, some (.v LT1), s7, s8, s9, s10, s11] (.t [.v 7, .v 11]) [] (.bin .mul (.call 80 [.var 2, .var 7] []) (.var 11))) IT h = .ok WS h) (hs : sumV (.lst WS) = some (.int D))
    (e1 : cf 49 [RV, LT1] h = .ok (.int D) h) (r1 : reprOf (.int D) = some t1) (n1 : cmpop .ne (.str t1) (.str t1) = some false) (e2 : cf 50 [RV, LT1] h = .ok (.int B) h) (gb : getH h LV (.str "bound") = some (.int bd)) (e3 : cf 81 [.int D, .int bd] h = .ok (.int B) h) (r2 : reprOf (.int B) = some t2) (n2 : cmpop .ne (.str t2) (.str t2) = some false)
    (e4 : cf 13 [.ref r, .int ((n : Int) + 1)] h = .ok (.int at') h') (c1 : getS LT1 none (some at') = some LT2) (c2 : getS LT1 (some at') none = some LT3) (c3 : getR LT1 = some LT4) (e5 : cf 49 [RV, LT2] h' = .ok (.int A1) h') (e6 : cf 49 [RV, LT3] h' = .ok (.int A2) h') (e7 : cf 49 [RV, LT4] h' = .ok (.int D) h') (ea : A1 + A2 = D) :
    ∃ t8 t9 t10, turnF cf (.v 6) b04L LT1 [some (.v (.ref r)), s1, some (.v LV), some (.v RV), s4, s5, s6, s7, s8, s9, s10, s11] h = .ok .nxt [some (.v (.ref r)), s1, some (.v LV), some (.v RV), s4, s5, some (.v LT1), s7, t8, t9, t10, s11] h' := by
  refine ⟨some (.v (.int D)), some (.v (.int at')), some (.v (.int A1)), ?_⟩
  have n3 : cmpop .ne (.int D) (.int D) = some false := by
    rw [c_ne rfl rfl]
    show some (!(D == D)) = _
    simp
  simp [turnF_eq, hw, hl, ml, hc, hs, e1, r1, n1, e2, gb, e3, r2, n2, e4, c1, c2, c3, e5, e6, e7, ea, n3]
theorem reck_rev (ss : List Step) (l : List Thing) : reck ss l.reverse = reck ss l := by
  unfold reck
  rw [List.map_reverse, List.sum_reverse]
theorem reck_cut (ss : List Step) (l : List Thing) (n : Nat) : reck ss (l.take n) + reck ss (l.drop n) = reck ss l := by
  unfold reck
  rw [← List.sum_append, ← List.map_append, List.take_append_drop]
theorem reck_big {box bound : Nat} {ss : List Step} (f : Fine box bound ss) : ∀ (l : List Thing), (∀ p ∈ l, p.2 < 2 ^ 32) → reck ss l ≤ l.length * 2 ^ 100
  | [], _ => by simp [reck]
  | p :: l, h => by
    have ih := reck_big f l fun x hx => h x (List.mem_cons_of_mem _ hx)
    have w := wAt_big f (spR p.1)
    have m := h p List.mem_cons_self
    have q : p.2 * wAt ss (spR p.1) ≤ 2 ^ 32 * 1000000000 := Nat.mul_le_mul (by omega) (by omega)
    have q2 : 2 ^ 32 * 1000000000 ≤ 2 ^ 100 := by decide
    show p.2 * wAt ss (spR p.1) + reck ss l ≤ (l.length + 1) * 2 ^ 100
    rw [Nat.add_mul, Nat.one_mul]
    omega
theorem lotGood {box : Nat} {l l' : List Thing} (g : Lot box l) (hs : ∀ p ∈ l', p ∈ l) (hn : (l'.map (·.1)).Nodup) (hl : l'.length ≤ 8) : Lot box l' := ⟨fun p hp => g.g p (hs p hp), hn, hl⟩
theorem loop04L {k r box bound : Nat} {ss : List Step} (f : Fine box bound ss) {s1 s4 s5 s7 s11 : Option Slot} : ∀ (ls : List (List Thing)) (c : Nat) (h : Hs) (s6 s8 s9 s10 : Option Slot), (∀ l ∈ ls, Lot box l) → Pot h r c → c + ls.length < 2 ^ 300 →
    ∃ (h' : Hs) (t6 t8 t9 t10 : Option Slot), loopF (turnF (callD U (k + 10)) (.v 6) b04L) (ls.map lotV) [some (.v (.ref r)), s1, some (.v (loreV box bound ss)), some (.v (ruleV (textL box bound ss) box bound ss)), s4, s5, s6, s7, s8, s9, s10, s11] h =
      .ok .nxt [some (.v (.ref r)), s1, some (.v (loreV box bound ss)), some (.v (ruleV (textL box bound ss) box bound ss)), s4, s5, t6, s7, t8, t9, t10, s11] h' ∧ Pot h' r (c + ls.length) ∧ h'.length = h.length
  | [], c, h, s6, s8, s9, s10, _, P, _ => ⟨h, s6, s8, s9, s10, rfl, P, rfl⟩
  | l :: ls, c, h, s6, s8, s9, s10, hg, P, hc => by
    rw [List.length_cons] at hc
    have g := hg l List.mem_cons_self
    have le := g.len
    have b1 := f.b1
    have b2 := f.b2
    have d1 := f.d1
    have d2 := f.d2
    have wb : ∀ s, wAt ss s < 2 ^ 100 := fun s => Nat.lt_trans (wAt_big f s) pw100
    have dL : bound < 2 ^ 1300 := Nat.lt_of_le_of_lt d2 (by decide +kernel)
    obtain ⟨at', h1, e4, w4, P1, l1⟩ := m_take (k := k + 9) P (by omega) (l.length + 1) (by omega) (lt_pw (m := 10) (by omega) (by decide))
    have g2 : Lot box (l.take at') := lotGood g (fun p hp => List.mem_of_mem_take hp) (by rw [List.map_take]; exact g.nd.sublist (List.take_sublist _ _)) (by rw [List.length_take]; omega)
    have g3 : Lot box (l.drop at') := lotGood g (fun p hp => List.mem_of_mem_drop hp) (by rw [List.map_drop]; exact g.nd.sublist (List.drop_sublist _ _)) (by rw [List.length_drop]; omega)
    have g4 : Lot box l.reverse := lotGood g (fun p hp => List.mem_reverse.mp hp) (by rw [List.map_reverse]; exact List.pairwise_reverse.mpr (List.Pairwise.imp (fun h => Ne.symm h) g.nd)) (by rw [List.length_reverse]; exact le)
    have rk := fun (h : Hs) (l : List Thing) (g : Lot box l) => m_reck (k := k + 2) (h := h) (tx := textL box bound ss) (bound := bound) (ss := ss) g.g (by decide) (by omega) (Nat.le_trans g.len (by decide)) g.nd wb
    have bx := m_boxes (k := k) (h := h) (tx := textL box bound ss) (bound := bound) (ss := ss) g.g (by decide) (by omega) (Nat.le_trans le (by decide)) g.nd wb (by omega) dL
    have up := m_up (k := k + 9) (h := h) (a := reck ss l) (b := bound) (by omega) dL
    have big : reck ss l < 2 ^ 1800 := by
      have q := reck_big f l fun p hp => (g.g p hp).gi.mb
      have q2 : l.length * 2 ^ 100 ≤ 8 * 2 ^ 100 := Nat.mul_le_mul_right _ le
      exact Nat.lt_of_le_of_lt (Nat.le_trans q q2) (by decide +kernel)
    obtain ⟨t1, r1, k1⟩ := repr_int (i := (reck ss l : Nat)) (by rw [Int.natAbs_natCast]; exact Nat.lt_trans big (by decide +kernel))
    have bb : (-((-(reck ss l : Int)) / bound)).natAbs ≤ reck ss l + 1 := by
      rw [Int.natAbs_neg]
      have bp : (0 : Int) < bound := by omega
      have m1 := Int.emod_nonneg (-(reck ss l : Int)) (show (bound : Int) ≠ 0 by omega)
      have m2 := Int.emod_lt_of_pos (-(reck ss l : Int)) bp
      have m3 := Int.emod_add_mul_ediv (-(reck ss l : Int)) bound
      generalize (-(reck ss l : Int)) / bound = D at *
      have hD : D ≤ 0 := by
        refine Int.not_lt.mp fun z => ?_
        have : (bound : Int) * 1 ≤ bound * D := Int.mul_le_mul_of_nonneg_left (by omega) (by omega)
        omega
      have h2 : -D ≤ (reck ss l : Int) + 1 := by
        refine Int.not_lt.mp fun z => ?_
        have : (bound : Int) * (reck ss l + 1) ≤ bound * (-D - 1) := Int.mul_le_mul_of_nonneg_left (by omega) (by omega)
        have e1 : (bound : Int) * (-D - 1) = -(bound * D) - bound := by rw [Int.mul_sub, Int.mul_neg, Int.mul_one]
        have e2 : (reck ss l + 1 : Int) * 1 ≤ (reck ss l + 1) * bound := Int.mul_le_mul_of_nonneg_left (by omega) (by omega)
        rw [Int.mul_comm (reck ss l + 1 : Int) bound] at e2
        omega
      omega
    obtain ⟨t2, r2, k2⟩ := repr_int (i := -((-(reck ss l : Int)) / bound)) (Nat.lt_of_le_of_lt bb (Nat.lt_of_lt_of_le (Nat.add_lt_add_right big 1) (by decide +kernel)))
    have cm := mapF_map (h := h) (i := itV) (f := fun p => Val.int ((p.2 * wAt ss (spR p.1) : Nat) : Int)) (g := turnC (callD U (k + 10)) [some (.v (.ref r)), s1, some (.v (loreV box bound ss)), some (.v (ruleV (textL box bound ss) box bound ss)), s4, s5, some (.v (lotV l)), s7, s8, s9, s10, s11] (.t [.v 7, .v 11]) [] (.bin .mul (.call 80 [.var 2, .var 7] []) (.var 11))) l (fun p hp => by
      have z := (g.g p hp).sz
      have e := m_reached (k := k + 9) (h := h) f z (by decide)
      have s1 := (g.g p hp).gi.sm_m.sm (by omega)
      have s2 : sm (wAt ss (spR p.1) : Int) = true := sm_of (by rw [Int.natAbs_natCast]; exact Nat.lt_trans (wAt_big f _) (by decide +kernel))
      have m := b_mul s2 s1
      have ce : ((p.2 * wAt ss (spR p.1) : Nat) : Int) = (wAt ss (spR p.1) : Int) * (p.2 : Int) := by rw [Int.natCast_mul, Int.mul_comm]
      rw [ce]
      generalize loreV box bound ss = LV at *
      generalize callD U (k + 10) = cf at *
      simp [turnC_eq, itV, e, m])
    have sv : sumV (.lst (l.map fun p => Val.int ((p.2 * wAt ss (spR p.1) : Nat) : Int))) = some (.int (reck ss l)) := by
      show (intsOf (l.map fun p => Val.int ((fun p : Thing => ((p.2 * wAt ss (spR p.1) : Nat) : Int)) p))).map _ = _
      rw [ints_map]
      show some (Val.int ((l.map fun p : Thing => ((p.2 * wAt ss (spR p.1) : Nat) : Int)).sum)) = _
      have q := sum_cast (l.map fun p : Thing => p.2 * wAt ss (spR p.1))
      rw [List.map_map] at q
      rw [show (l.map fun p : Thing => ((p.2 * wAt ss (spR p.1) : Nat) : Int)) = l.map ((fun (n : Nat) => (n : Int)) ∘ fun p : Thing => p.2 * wAt ss (spR p.1)) from rfl, q]
      rfl
    obtain ⟨t8, t9, t10, st⟩ := step04L (cf := callD U (k + 10)) (h := h) (h' := h1) (s1 := s1) (s4 := s4) (s5 := s5) (s6 := s6) (s7 := s7) (s8 := s8) (s9 := s9) (s10 := s10) (s11 := s11) (r := r) (n := l.length) (LV := loreV box bound ss) (RV := ruleV (textL box bound ss) box bound ss) (LT1 := lotV l) (LT2 := lotV (l.take at')) (LT3 := lotV (l.drop at')) (LT4 := lotV l.reverse) (IT := l.map itV) (D := reck ss l) (B := -((-(reck ss l : Int)) / bound)) (bd := bound) (A1 := reck ss (l.take at')) (A2 := reck ss (l.drop at'))
      rfl rfl (lot_len l) (by rw [List.length_map]; exact lm (by omega)) cm sv (rk h l g) r1 (ne_txt k1) bx g_bound up r2 (ne_txt k2) e4 (lot_lo l at' (by omega)) (lot_hi l at' (by omega)) (lot_rev l) (rk h1 _ g2) (rk h1 _ g3) (by rw [← reck_rev ss l]; exact rk h1 _ g4) (by rw [← reck_cut ss l at']; omega)
    obtain ⟨h', t6, u8, u9, u10, e2, P2, l2⟩ := loop04L (k := k) f (s1 := s1) (s4 := s4) (s5 := s5) (s7 := s7) (s11 := s11) ls (c + 1) h1 (some (.v (lotV l))) t8 t9 t10 (fun x hx => hg x (List.mem_cons_of_mem _ hx)) P1 (by omega)
    refine ⟨h', t6, u8, u9, u10, ?_, ?_, by omega⟩
    · rw [List.map_cons, lf_cons, st]
      exact e2
    · have : c + 1 + ls.length = c + (l :: ls).length := by rw [List.length_cons]; omega
      rw [← this]
      exact P2
theorem core04 {cf : Nat → List Val → Hs → Out Val} {h h1 h2 h3 h4 h5 h6 : Hs} {s1 s2 s3 s4 s5 s6 s7 s8 s9 s10 s11 t4 t6 t7 t8 t9 t10 : Option Slot} {r x y : Nat} {LV RV : Val} {LS : List Val} {B : Int} (e1 : cf 14 [.ref r, .lst [.int 3, .int 12, .int 60]] h = .ok (.int x) h1) (e2 : cf 14 [.ref r, .lst [.int 3, .int 8, .int 20]] h1 = .ok (.int y) h2) (e3 : cf 79 [.ref r, .int x, .int y] h2 = .ok LV h3) (e4 : cf 66 [LV] h3 = .ok RV h3)
    (lp1 : loopF (turnF cf (.v 4) b04T) (rngV 0 16) [some (.v (.ref r)), s1, some (.v LV), some (.v RV), s4, s5, s6, s7, s8, s9, s10, s11] h3 = .ok .nxt [some (.v (.ref r)), s1, some (.v LV), some (.v RV), t4, s5, s6, t7, s8, s9, s10, s11] h4)
    (hg : getH h5 LV (.str "box") = some (.int B)) (cm : mapF (turnC cf [some (.v (.ref r)), s1, some (.v LV), some (.v RV), t4, s5, s6, t7, s8, s9, s10, s11] (.v 4) [] (.call 20 [.var 0, .idx (.var 2) (.lit (.str "box")), .lit (.int 8)] [])) (rngV 0 4) h4 = .ok LS h5) (ml : LS.length ≤ 1000)
    (lp2 : loopF (turnF cf (.v 6) b04L) (LS ++ [.tup [], .tup [.tup [.tup [.int B, .int 1], .int 3]]]) [some (.v (.ref r)), s1, some (.v LV), some (.v RV), t4, some (.v (.lst (LS ++ [.tup [], .tup [.tup [.tup [.int B, .int 1], .int 3]]]))), s6, t7, s8, s9, s10, s11] h5 = .ok .nxt [some (.v (.ref r)), s1, some (.v LV), some (.v RV), t4, some (.v (.lst (LS ++ [.tup [], .tup [.tup [.tup [.int B, .int 1], .int 3]]]))), t6, t7, t8, t9, t10, s11] h6) :
    evSs cf b04 [some (.v (.ref r)), s1, s2, s3, s4, s5, s6, s7, s8, s9, s10, s11] h = .ok .nxt [some (.v (.ref r)), s1, some (.v LV), some (.v RV), t4, some (.v (.lst (LS ++ [.tup [], .tup [.tup [.tup [.int B, .int 1], .int 3]]]))), t6, t7, t8, t9, t10, s11] h6 := by
  have x1 : evS cf (.set 2 (.call 79 [.var 0, .call 14 [.var 0, .fr (.lst [.lit (.int 3), .lit (.int 12), .lit (.int 60)])] [], .call 14 [.var 0, .fr (.lst [.lit (.int 3), .lit (.int 8), .lit (.int 20)])] []] [])) [some (.v (.ref r)), s1, s2, s3, s4, s5, s6, s7, s8, s9, s10, s11] h = .ok .nxt [some (.v (.ref r)), s1, some (.v LV), s3, s4, s5, s6, s7, s8, s9, s10, s11] h3 := by simp [e1, e2, e3]
  have x2 : evS cf (.set 3 (.call 66 [.var 2] [])) [some (.v (.ref r)), s1, some (.v LV), s3, s4, s5, s6, s7, s8, s9, s10, s11] h3 = .ok .nxt [some (.v (.ref r)), s1, some (.v LV), some (.v RV), s4, s5, s6, s7, s8, s9, s10, s11] h3 := by simp [e4]
  have x3 := (for_ok (cf := cf) (tg := .v 4) (it := .rng1 (.lit (.int 16))) (b := b04T) (env := [some (.v (.ref r)), s1, some (.v LV), some (.v RV), s4, s5, s6, s7, s8, s9, s10, s11]) (h := h3) (h' := h3) (xs := rngV 0 16) (i_rng1_ok (j := 16) rfl (rg_le (by decide)) rfl)).trans lp1
  have i4 : evIt cf (.rng1 (.lit (.int 4))) [some (.v (.ref r)), s1, some (.v LV), some (.v RV), t4, s5, s6, t7, s8, s9, s10, s11] h4 = .ok (rngV 0 4) h4 := i_rng1_ok (j := 4) rfl (rg_le (by decide)) rfl
  have m1 : (rngV 0 4).length ≤ most := lm (by decide)
  have m2 : LS.length + 1 + 1 ≤ most := by
    have : (1000 + 1 + 1) ≤ most := by decide
    omega
  have m3 : LS.length + 2 ≤ most := m2
  have x4 : evS cf (.set 5 (.fr (.cat (.fr (.comp (.call 20 [.var 0, .idx (.var 2) (.lit (.str "box")), .lit (.int 8)] []) (.v 4) (.rng1 (.lit (.int 4))) [])) (.fr (.lst [.tup [], .tup [.tup [.tup [.idx (.var 2) (.lit (.str "box")), .lit (.int 1)], .lit (.int 3)]]]))))) [some (.v (.ref r)), s1, some (.v LV), some (.v RV), t4, s5, s6, t7, s8, s9, s10, s11] h4 = .ok .nxt [some (.v (.ref r)), s1, some (.v LV), some (.v RV), t4, some (.v (.lst (LS ++ [.tup [], .tup [.tup [.tup [.int B, .int 1], .int 3]]]))), s6, t7, s8, s9, s10, s11] h5 := by
    generalize rngV 0 4 = R4 at *
    have i4' : ∀ b, evIt cf b [some (.v (.ref r)), s1, some (.v LV), some (.v RV), t4, s5, s6, t7, s8, s9, s10, s11] h4 = .ok R4 h4 → evF cf (.comp (.call 20 [.var 0, .idx (.var 2) (.lit (.str "box")), .lit (.int 8)] []) (.v 4) b []) [some (.v (.ref r)), s1, some (.v LV), some (.v RV), t4, s5, s6, t7, s8, s9, s10, s11] h4 = .ok LS h5 := fun b hb => by
      rw [f_comp, hb]
      simp [m1, cm]
    have i5 := i4' _ i4
    rw [s_set_, e_fr, f_cat, e_fr, i5]
    simp [hg, m2, m3]
  generalize LS ++ [.tup [], .tup [.tup [.tup [.int B, .int 1], .int 3]]] = AL at *
  have x5 := (for_ok (cf := cf) (tg := .v 6) (it := .seq (.var 5)) (b := b04L) (env := [some (.v (.ref r)), s1, some (.v LV), some (.v RV), t4, some (.v (.lst AL)), s6, t7, s8, s9, s10, s11]) (h := h5) (h' := h5) (xs := AL) (by simp)).trans lp2
  show evSs cf [_, _, _, _, _] _ h = _
  rw [ss_ok x1, ss_ok x2, ss_ok x3, ss_ok x4, ss_ok x5]
  rfl
theorem m_lap04 {k r c : Nat} {h : Hs} (P : Pot h r c) (hc : c + 1000 < 2 ^ 300) (s1 s2 s3 s4 s5 s6 s7 s8 s9 s10 s11 : Option Slot) :
    ∃ (h' : Hs) (t2 t3 t4 t5 t6 t7 t8 t9 t10 : Option Slot), evSs (callD U (k + 10)) b04 [some (.v (.ref r)), s1, s2, s3, s4, s5, s6, s7, s8, s9, s10, s11] h = .ok .nxt [some (.v (.ref r)), s1, t2, t3, t4, t5, t6, t7, t8, t9, t10, s11] h' ∧ Pot h' r (c + 1000) ∧ h'.length = h.length := by
  obtain ⟨d, v, h1, e1, w1, P1, l1⟩ := m_of (k := k + 8) P (by omega) [.int 3, .int 12, .int 60] (by simp) (by decide +kernel)
  obtain ⟨x, ex, x0, x1⟩ : ∃ x : Nat, v = .int x ∧ 1 ≤ x ∧ x ≤ 60 := by
    match d, w1 with
    | 0, w3 => cases w3; exact ⟨3, rfl, by decide, by decide⟩
    | 1, w3 => cases w3; exact ⟨12, rfl, by decide, by decide⟩
    | 2, w3 => cases w3; exact ⟨60, rfl, by decide, by decide⟩
    | n + 3, w3 => cases w3
  subst ex
  obtain ⟨d2, v, h2, e2, w2, P2, l2⟩ := m_of (k := k + 8) P1 (by omega) [.int 3, .int 8, .int 20] (by simp) (by decide +kernel)
  obtain ⟨y, ey, y1⟩ : ∃ x : Nat, v = .int x ∧ x ≤ 60 := by
    match d2, w2 with
    | 0, w3 => cases w3; exact ⟨3, rfl, by decide⟩
    | 1, w3 => cases w3; exact ⟨8, rfl, by decide⟩
    | 2, w3 => cases w3; exact ⟨20, rfl, by decide⟩
    | n + 3, w3 => cases w3
  subst ey
  obtain ⟨box, bound, ss, h3, e3, f, _, _, _, _, P3, l3⟩ := m_lore (k := k + 7) P2 (by omega) x y x0 x1 y1
  have e4 := m_lrule (k := k + 4) (h := h3) f
  obtain ⟨h4, t4, t7, lp1, P4, l4⟩ := loop04T (k := k + 4) f (s1 := s1) (s5 := s5) (s6 := s6) (s8 := s8) (s9 := s9) (s10 := s10) (s11 := s11) 16 0 _ h3 s4 s7 P3 (by omega)
  obtain ⟨ls, h5, cm, q1, q2, P5, l5⟩ := lots04 (k := k + 6) (r := r) (box := box) (LV := loreV box bound ss) (s1 := s1) (s3 := some (.v (ruleV (textL box bound ss) box bound ss))) (s4 := t4) (s5 := s5) (s6 := s6) (s7 := t7) (s8 := s8) (s9 := s9) (s10 := s10) (s11 := s11) f.b1 f.b2 (fun h => g_box) 4 0 _ h4 P4 (by omega)
  have b1 := f.b1
  have b2 := f.b2
  have one : Lot box [(mkRat (box : Int) 1, 3)] := by
    have z : Sz 32 box (mkRat (box : Int) 1) := sz_mk (by omega) (by decide) (by omega) (by omega) (by decide)
    refine ⟨fun p hp => ?_, by simp, by simp⟩
    rw [List.mem_singleton.mp hp]
    exact ⟨⟨z.qq, z.pos, show 0 < 3 by decide, show 3 < 2 ^ 32 by decide⟩, z.le⟩
  obtain ⟨h6, t6, t8, t9, t10, lp2, P6, l6⟩ := loop04L (k := k) f (s1 := s1) (s4 := t4) (s5 := some (.v (.lst (ls.map lotV ++ [.tup [], .tup [.tup [.tup [.int box, .int 1], .int 3]]])))) (s7 := t7) (s11 := s11) (ls ++ [[], [(mkRat (box : Int) 1, 3)]]) _ h5 s6 s8 s9 s10 (fun l hl => by
    rcases List.mem_append.mp hl with z | z
    · exact q1 l z
    · rcases List.mem_cons.mp z with z | z
      · subst z
        exact ⟨fun p hp => (by cases hp), List.nodup_nil, by decide⟩
      · rw [List.mem_singleton.mp z]
        exact one) P5 (by rw [List.length_append, q2]; simp; omega)
  have ea : (ls ++ [[], [(mkRat (box : Int) 1, 3)]]).map lotV = ls.map lotV ++ [.tup [], .tup [.tup [.tup [.int box, .int 1], .int 3]]] := by
    rw [List.map_append]
    congr 1
    show [Val.tup [], .tup [.tup [rv (mkRat (box : Int) 1), .int 3]]] = _
    rw [rv_one]
  rw [ea] at lp2
  exact ⟨h6, _, _, _, _, _, _, _, _, _, core04 (LV := loreV box bound ss) (LS := ls.map lotV) (B := box) e1 e2 e3 e4 lp1 g_box cm (by rw [List.length_map, q2]; decide) lp2, P6.mono (by rw [List.length_append, q2]; simp), by omega⟩
theorem laps04 {k r : Nat} : ∀ (n : Nat) (lo : Int) (c : Nat) (h : Hs) (s1 s2 s3 s4 s5 s6 s7 s8 s9 s10 s11 : Option Slot), Pot h r c → c + 1000 * n + 1000 < 2 ^ 300 →
    ∃ (h' : Hs) (t1 t2 t3 t4 t5 t6 t7 t8 t9 t10 : Option Slot), loopF (turnF (callD U (k + 10)) (.v 1) b04) (rngV lo n) [some (.v (.ref r)), s1, s2, s3, s4, s5, s6, s7, s8, s9, s10, s11] h = .ok .nxt [some (.v (.ref r)), t1, t2, t3, t4, t5, t6, t7, t8, t9, t10, s11] h'
  | 0, lo, c, h, s1, s2, s3, s4, s5, s6, s7, s8, s9, s10, s11, P, _ => ⟨h, s1, s2, s3, s4, s5, s6, s7, s8, s9, s10, rfl⟩
  | n + 1, lo, c, h, s1, s2, s3, s4, s5, s6, s7, s8, s9, s10, s11, P, hc => by
    obtain ⟨h1, u2, u3, u4, u5, u6, u7, u8, u9, u10, e1, P1, l1⟩ := m_lap04 (k := k) P (by omega) (some (.v (.int lo))) s2 s3 s4 s5 s6 s7 s8 s9 s10 s11
    obtain ⟨h', t1, t2, t3, t4, t5, t6, t7, t8, t9, t10, e2⟩ := laps04 (k := k) n (lo + 1) _ h1 (some (.v (.int lo))) u2 u3 u4 u5 u6 u7 u8 u9 u10 s11 P1 (by omega)
    refine ⟨h', t1, t2, t3, t4, t5, t6, t7, t8, t9, t10, ?_⟩
    show loopF _ (.int lo :: rngV (lo + 1) n) _ _ = _
    have st : turnF (callD U (k + 10)) (.v 1) b04 (.int lo) [some (.v (.ref r)), s1, s2, s3, s4, s5, s6, s7, s8, s9, s10, s11] h = .ok .nxt [some (.v (.ref r)), some (.v (.int lo)), u2, u3, u4, u5, u6, u7, u8, u9, u10, s11] h1 := by
      rw [turnF_eq]
      exact e1
    rw [lf_cons, st]
    exact e2
theorem m_right78 {k : Nat} {h : Hs} {r : Nat} (P : Pot h r 0) : ∃ h', callD U (k + 11) 78 [.ref r] h = .ok (.bl true) h' := by
  obtain ⟨h', t1, t2, t3, t4, t5, t6, t7, t8, t9, t10, lp⟩ := laps04 (k := k) 3 0 0 h none none none none none none none none none none none P (by decide)
  refine ⟨h', ?_⟩
  rw [call_eq (d := d78) rfl rfl, d78_eq]
  generalize callD U (k + 10) = cf at *
  have x1 := (for_ok (cf := cf) (tg := .v 1) (it := .rng1 (.lit (.int 3))) (b := b04) (env := [some (.v (.ref r)), none, none, none, none, none, none, none, none, none, none, none]) (h := h) (h' := h) (xs := rngV 0 3) (i_rng1_ok (j := 3) rfl (rg_le (by decide)) rfl)).trans lp
  show retOf (evSs cf [_, _] [some (.v (.ref r)), none, none, none, none, none, none, none, none, none, none, none] h) = _
  rw [ss_ok x1]
  refine (congrArg retOf (ss_rete (h' := h') (v := .bl true) (by simp))).trans ?_
  rfl
theorem law_true (ns : List Int) (hl : ns.length ≤ 63) : ∃ h', callD U 60 83 [.scr ns] [] = .ok (.bl true) h' :=
  law_of (k := 58) (R := 78) (L := 6) ns hl (by decide) (by decide) (d := d83) rfl rfl fun h r P => m_right78 (k := 48) P
end LT
set_option Elab.async false
set_option linter.all false
set_option maxRecDepth 100000
set_option maxHeartbeats 0
namespace LT
open PySem PySem.Spec PyProof.Rows L2 Pyi
def nm0 : List Str := [("_wall" : Str), ("ReckonError" : Str), ("BadRule" : Str), ("BadSize" : Str), ("BadLot" : Str), ("BLANK" : Str), ("FEED" : Str), ("DIGITS" : Str), ("MOST_BOX" : Str), ("PAIR" : Str), ("is_integer" : Str), ("is_tuple" : Str), ("is_said" : Str), ("integer_in" : Str), ("common" : Str), ("is_number" : Str), ("is_size" : Str), ("BOX" : Str), ("BOUND" : Str), ("FROM" : Str), ("BEYOND" : Str), ("MOST_WORTH" : Str), ("TRIPLE" : Str), ("number_in" : Str), ("step_in" : Str), ("space_at" : Str), ("parts_of" : Str), ("worths_by" : Str), ("space_of" : Str), ("is_part" : Str)]
def nm1 : List Str := [("is_lot" : Str), ("check_lot" : Str), ("Rule" : Str), ("_law_pot" : Str), ("_law_take" : Str), ("_law_of" : Str), ("_law_some" : Str), ("_law_cells" : Str), ("_law_number" : Str), ("_law_up" : Str), ("_law_text" : Str), ("_law_rule" : Str), ("_law_lore" : Str), ("_law_size" : Str), ("_law_lot" : Str), ("_law_reached" : Str), ("_law_right" : Str)]
def names : List Str := nm0 ++ nm1
abbrev R : PySem.W.OpenRow := PySem.W.OpenLaw.row PySem.Challenge.rw_sizesreckoned_k04_whole_worths_of_sizes
abbrev hk : PySem.W.Hook := hookE 6 fa fn pr ex
def ob (s : PySem.W.SharedT) : AlE := obsE 6 fa fn pr ex (HandSHeadRun.getT s)
theorem ob_eq (s : PySem.W.SharedT) : ob s = hk.obs s.abs := obsE_eq (HandSHeadRun.getT_eq s)
theorem run (w : World) : HandSHeadRun.RunEq R (PySem.W.view R.prog [51]) hk ob 20000 names w := by
  intro os
  kernel_rfl
end LT
open PySem PySem.W PySem.Calls PyProof.Rows
theorem PySem.Challenge.cw_sizesreckoned_k04_whole_worths_of_sizes_holds : PySem.Challenge.rw_sizesreckoned_k04_whole_worths_of_sizes.Holds := by
  w_on; o_law
  refine HandSHeadRun.head_any (r := OpenLaw.row PySem.Challenge.rw_sizesreckoned_k04_whole_worths_of_sizes) (q := view (OpenLaw.row PySem.Challenge.rw_sizesreckoned_k04_whole_worths_of_sizes).prog [51]) (H := LT.hk) (ob := LT.ob) (M := 20000) (loose := LT.names) (d := HandSHeadRun.topDef (OpenLaw.row PySem.Challenge.rw_sizesreckoned_k04_whole_worths_of_sizes).prog 51) (kwd := []) LT.ob_eq
    (by kernel_rfl) (fun s => by kernel_rfl) LT.run (by kernel_rfl) (by kernel_rfl) (by kernel_rfl) (by rfl) (by first | assumption | decide +kernel) (by decide +kernel) ⟨rfl, rfl, rfl, rfl, rfl, by decide +kernel⟩ ?hw ?hc
  case hw => w_witness2
  case hc =>
    refine Pyi.walk_run (l := PySem.Challenge.rw_sizesreckoned_k04_whole_worths_of_sizes) (n := 63) (k := 60) (x := "script") (U := LT.U) (f := 83) rfl (by decide) (by kernel_rfl) ⟨rfl, by decide, by decide⟩ ?F LT.law_true
    intro w mg fa h Y G hmg0
    obtain ⟨K, KX, c⟩ := Y
    have hmg : mg ("law" : PySem.Str) = some (.ref fa) := by
      have e : (HandSHeadRun.topDef (OpenLaw.row PySem.Challenge.rw_sizesreckoned_k04_whole_worths_of_sizes).prog 51).name = ("law" : PySem.Str) := by kernel_rfl
      rw [← e]
      exact hmg0
    obtain ⟨fd, F⟩ := c.says.def_ 33 (d := LT.e83) rfl
    have bnd := L2.FunD.bindsA (ps := ["script"]) F fun _ _ _ _ _ _ us hl => match us, hl with | [_], _ => rfl
    refine ⟨K, fd, LT.ca K, KX, fun s v => bnd s [v] rfl, fun base KB GB => ?_⟩
    have e1 := He.glo_ok KX G (c.says.fact 29 (f := .glo "law") rfl)
    rw [hmg] at e1
    cases e1
    exact Pyi.frow_ok (nm := "law") (LT.hyp KX G c 59) (LT.q83 F)
