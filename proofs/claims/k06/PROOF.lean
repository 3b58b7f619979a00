import PyProof.Rows.All
import PySem.Str
import PyProof.ReprReads
import Wide.All
import OpenK.AllK
import Wide.FinOn
import HandS.ForMost
import HandS.Wide
import HandS.Style
import HandS.TupAny
import HandS.Defaults
import HandS.Exc
import HandS.IsInst
import HandS.RaiseMore
import PyProof.ReprLen
import PyProof.ReprRoads
import PyProof.CallFns
import HandS.HeadEnd
import KE.KDictItemsList
import HandS.Comp
import HandS.Dict
import HandS.DictComp
import HandS.DictTup
import HandS.ListItems
import HandS.List
import HandS.Conv
import HandS.TupLen
import HandS.Head0
import HandS.Head1
import HandS.Head2
import HandS.HeadHook1
import HandS.HeadHook2
import HandS.HeadHook4
import PySem.Challenge.RW_sizesreckoned_k06_whole_lots_filled
/-! A small interpreter over plain values for the part of Python that the program uses. No model in sight here. -/
namespace Pyi
open PySem

/-- a plain value: tuples, lists that nobody changes, dicts that nobody changes and finished instances are trees -/
inductive Val where
  | non | bl (b : Bool) | int (i : Int) | str (x : Str)
  | tup (vs : List Val) | lst (vs : List Val)
  | scr (ns : List Int)
  | dct (ks vs : List Val)
  | inst (c : Nat) (ns : List Str) (vs : List Val)
  | exn (c : Nat) (v : Val)
  | ref (n : Nat)
  deriving Inhabited

/-- an object that changes -/
inductive MObj where
  | lst (vs : List Val)
  | ins (c : Nat) (ns : List Str) (vs : List Val)
abbrev Hs := List MObj

/-- what a name of the frame holds: a value, or a list (a dict, an instance in its making) that it alone holds -/
inductive Slot where
  | v (x : Val)
  | own (vs : List Val)
  | ownD (ks vs : List Val)
  | ownI (ns : List Str) (vs : List Val)
abbrev Env := List (Option Slot)

inductive Out (α : Type) where
  | ok (a : α) (h : Hs)
  | exc (c : Nat) (v : Val) (h : Hs)
  | bad

@[simp] def Out.bind {α β : Type} : Out α → (α → Hs → Out β) → Out β
  | .ok a h, f => f a h
  | .exc c v h, _ => .exc c v h
  | .bad, _ => .bad

/-! ### the text -/
inductive Lit where
  | non | bl (b : Bool) | int (i : Int) | str (x : Str)
def Lit.val : Lit → Val
  | .non => .non
  | .bl b => .bl b
  | .int i => .int i
  | .str x => .str x
inductive BOp where
  | add | sub | mul | fdiv | mod | pow
  deriving DecidableEq
inductive COp where
  | eq | ne | lt | le | gt | ge | is_ | isnot | in_ | notin
  deriving DecidableEq
inductive Ty where
  | int | bool | str | tuple | list
  | own (c : Nat)
/-- built-in functions of values -/
inductive Bi where
  | len | int_ | abs | str_ | repr | tuple_ | sum | all_ | any_ | max_ | min_
  deriving DecidableEq
inductive Tg where
  | v (i : Nat)
  | t (l : List Tg)

mutual
inductive E where
  | lit (l : Lit)
  | glb (x : Str) (l : Lit)
  | var (i : Nat)
  | bin (o : BOp) (a b : E)
  | neg (a : E)
  | not_ (a : E)
  | and_ (a b : E)
  | or_ (a b : E)
  | ite (c a b : E)
  | cmp (o : COp) (a b : E)
  | chn (o p : COp) (a b c : E)
  | tup (es : List E)
  | idx (a i : E)
  | slc (a : E) (lo hi : Option E)
  | rev (a : E)
  | call (f : Nat) (es : List E) (ds : List Lit)
  | bi (b : Bi) (es : List E)
  | isi (a : E) (t : Ty)
  | fr (f : FE)
  | mk (f : FE)
  | olen (i : Nat)
  | oidx (i : Nat) (e : E)
  | oemp (i : Nat) (pos : Bool)
  | lenDC (k : E) (tg : Tg) (it : It)
  | lenSet (f : FE)
/-- a list just made -/
inductive FE where
  | lst (es : List E)
  | of (e : E)
  | ofIt (it : It)
  | items (i : Nat)
  | rep (f : FE) (e : E)
  | cat (a b : E)
  | comp (e : E) (tg : Tg) (it : It) (cs : List E)
  | comp2 (e : E) (tg : Tg) (it : It) (tg2 : Tg) (it2 : It) (cs : List E)
/-- what is walked -/
inductive It where
  | seq (e : E)
  | rng1 (b : E)
  | rng2 (a b : E)
  | enum (e : E)
  | zip (a b : E)
end

inductive S where
  | set (i : Nat) (e : E)
  | tset (tg : Tg) (e : E)
  | par (is : List Nat) (es : List E)
  | unK (is : List Nat) (x : Str) (ns : List Int)
  | own (i : Nat) (f : FE)
  | ownD (i : Nat)
  | frz (i : Nat)
  | app (i : Nat) (e : E)
  | appPop (i j : Nat) (e : E)
  | setI (a i e : E)
  | oset (x : Nat) (i e : E)
  | dset (x : Nat) (k e : E)
  | aug (i : Nat) (o : BOp) (e : E)
  | ret (e : E)
  | retN
  | if_ (c : E) (a b : List S)
  | for_ (tg : Tg) (it : It) (b : List S)
  | while_ (c : E) (b : List S)
  | raise (c : Nat) (e : E)
  | ex (e : E)
  | pass
  | nev

structure FDef where
  ps : Nat
  n : Nat
  body : List S

/-! ### values -/
mutual
/-- is it data that == looks through: no dict, no object -/
def isD : Val → Bool
  | .non => true | .bl _ => true | .int _ => true | .str _ => true
  | .tup vs => isDs vs
  | .lst vs => isDs vs
  | _ => false
def isDs : List Val → Bool
  | [] => true
  | v :: vs => isD v && isDs vs
end
mutual
def dep : Val → Nat
  | .tup vs => deps vs + 1
  | .lst vs => deps vs + 1
  | _ => 0
def deps : List Val → Nat
  | [] => 0
  | v :: vs => max (dep v) (deps vs)
end
/-- all signs are scalar values -/
def sOk (x : Str) : Bool := x.cps.all fun c => decide (c < 1114112)
mutual
def veq : Val → Val → Bool
  | .non, w => match w with | .non => true | _ => false
  | .bl a, w => match w with | .bl b => a == b | .int j => (if a then 1 else 0) == j | _ => false
  | .int i, w => match w with | .int j => i == j | .bl b => i == (if b then 1 else 0) | _ => false
  | .str x, w => match w with | .str y => x == y | _ => false
  | .tup vs, w => match w with | .tup ws => veqs vs ws | _ => false
  | .lst vs, w => match w with | .lst ws => veqs vs ws | _ => false
  | _, _ => false
def veqs : List Val → List Val → Bool
  | [], ws => match ws with | [] => true | _ => false
  | v :: vs, ws => match ws with | w :: ws => veq v w && veqs vs ws | [] => false
end
/-- t < u of tuples of ints -/
def lexLt : List Int → List Int → Bool
  | [], [] => false
  | [], _ :: _ => true
  | _ :: _, [] => false
  | x :: xs, y :: ys => if x = y then lexLt xs ys else decide (x < y)

end Pyi
namespace Pyi
open PySem

/-- ints that may be multiplied -/
def sm (i : Int) : Bool := decide (i.natAbs < 2 ^ 400000)
/-- lists that may stand -/
def most : Nat := 1000000

/-! ### operators -/
def intsOf : List Val → Option (List Int)
  | [] => some []
  | .int i :: r => (intsOf r).map (i :: ·)
  | _ => none
def boolsOf : List Val → Option (List Bool)
  | [] => some []
  | .bl b :: r => (boolsOf r).map (b :: ·)
  | _ => none
def strsOf : List Val → Option (List Str)
  | [] => some []
  | .str b :: r => (strsOf r).map (b :: ·)
  | _ => none
def binop : BOp → Val → Val → Option Val
  | .add, .int i, .int j => some (.int (i + j))
  | .add, .int i, .bl b => some (.int (i + if b then 1 else 0))
  | .add, .str x, .str y => if x.length + y.length ≤ most then some (.str (x ++ y)) else none
  | .add, .tup xs, .tup ys => if xs.length + ys.length ≤ most then some (.tup (xs ++ ys)) else none
  | .sub, .int i, .int j => some (.int (i - j))
  | .mul, .int i, .int j => if sm i && sm j then some (.int (i * j)) else none
  | .fdiv, .int i, .int j => if decide (0 < j) && decide (j < 2 ^ 9000) then some (.int (i / j)) else none
  | .mod, .int i, .int j => if decide (0 < j) then some (.int (i % j)) else none
  | .pow, .int i, .int j => if decide (0 ≤ j) && (decide (j ≤ 100) && decide (i.natAbs < 2 ^ 100000)) then some (.int (i ^ j.toNat)) else none
  | _, _, _ => none
def cmpI : COp → Int → Int → Option Bool
  | .lt, i, j => some (decide (i < j))
  | .le, i, j => some (decide (i ≤ j))
  | .gt, i, j => some (decide (j < i))
  | .ge, i, j => some (decide (j ≤ i))
  | _, _, _ => none
/-- is it data with depth in the line -/
def eqOk (v : Val) : Bool := isD v && decide (dep v ≤ 60)
mutual
def strsOk : Val → Bool
  | .str x => sOk x
  | .tup vs => strsOks vs
  | .lst vs => strsOks vs
  | _ => true
def strsOks : List Val → Bool
  | [] => true
  | v :: vs => strsOk v && strsOks vs
end
def isNon : Val → Bool
  | .non => true
  | _ => false
def cmpop : COp → Val → Val → Option Bool
  | .lt, .int i, .int j => some (decide (i < j))
  | .le, .int i, .int j => some (decide (i ≤ j))
  | .gt, .int i, .int j => some (decide (j < i))
  | .ge, .int i, .int j => some (decide (j ≤ i))
  | .is_, v, .non => some (isNon v)
  | .isnot, v, .non => some (!isNon v)
  | .is_, .bl a, .bl b => some (a == b)
  | .isnot, .bl a, .bl b => some (a != b)
  | .eq, v, w => if eqOk v && eqOk w && (strsOk v && strsOk w) then some (veq v w) else none
  | .ne, v, w => if eqOk v && eqOk w && (strsOk v && strsOk w) then some (!veq v w) else none
  | _, _, _ => none
/-- the place that an index means -/
def ixN (n : Nat) (i : Int) : Option Nat := if 0 ≤ i then (if i < n then some i.toNat else none) else if -(n : Int) ≤ i then some (i + n).toNat else none
def atI {α : Type} (xs : List α) (i : Int) : Option α := (ixN xs.length i).bind fun j => xs[j]?
def getI : Val → Val → Option Val
  | .tup xs, .int i => atI xs i
  | .lst xs, .int i => atI xs i
  | .scr ns, .int i => (atI ns i).map .int
  | _, _ => none
/-- the same where it may be a list that changes -/
def getH (h : Hs) : Val → Val → Option Val
  | .ref n, .int k => match h[n]? with
    | some (.lst vs) => atI vs k
    | _ => none
  | x, y => getI x y
/-- a slice's bound as a place among n -/
def sIx (n d : Nat) : Option Int → Nat
  | none => d
  | some v => if v < 0 then (v + (n : Int)).toNat else min v.toNat n
def cut {α : Type} (xs : List α) (lo hi : Option Int) : List α := (xs.drop (sIx xs.length 0 lo)).take (sIx xs.length xs.length hi - sIx xs.length 0 lo)
def getS : Val → Option Int → Option Int → Option Val
  | .tup xs, lo, hi => some (.tup (cut xs lo hi))
  | _, _, _ => none
def getR : Val → Option Val
  | .tup xs => some (.tup xs.reverse)
  | _ => none
def itemsOf : Val → Option (List Val)
  | .tup xs => some xs
  | .lst xs => some xs
  | _ => none
/-! ### repr -/
mutual
def toD : Val → PyData
  | .bl b => .bool b
  | .int i => .int i
  | .str x => .str x
  | .tup vs => .tuple (toDs vs)
  | .lst vs => .list (toDs vs)
  | _ => .none
def toDs : List Val → List PyData
  | [] => []
  | v :: vs => toD v :: toDs vs
end
/-! how much is written of it at the most -/
mutual
def wt : Val → Nat
  | .str x => 10 * x.length + 4
  | .tup vs => wts vs + 4
  | .lst vs => wts vs + 4
  | _ => 2000
def wts : List Val → Nat
  | [] => 0
  | v :: vs => wt v + 2 + wts vs
end
mutual
def showI : Val → Bool
  | .int i => decide (i.natAbs < 2 ^ 1900)
  | .tup vs => showIs vs
  | .lst vs => showIs vs
  | _ => true
def showIs : List Val → Bool
  | [] => true
  | v :: vs => showI v && showIs vs
end
def reprOf (v : Val) : Option Str := if eqOk v && (strsOk v && (showI v && decide (wt v ≤ 10000000))) then some (toD v).shown else none
/-! ### built-in functions -/
def maxL : Int → List Int → Int
  | m, [] => m
  | m, x :: r => maxL (if x > m then x else m) r
def minL : Int → List Int → Int
  | m, [] => m
  | m, x :: r => minL (if x < m then x else m) r
def lenV : Val → Option Val
  | .tup xs => some (.int xs.length)
  | .lst xs => some (.int xs.length)
  | .scr xs => some (.int xs.length)
  | .str x => if x.length ≤ most then some (.int x.length) else none
  | _ => none
def intV : Val → Option Val
  | .int i => some (.int i)
  | .bl b => some (.int (if b then 1 else 0))
  | _ => none
def absV : Val → Option Val
  | .int i => some (.int (if i < 0 then -i else i))
  | _ => none
def strV : Val → Option Val
  | .int i => if decide (i.natAbs < 2 ^ 1900) then some (.str (toString i)) else none
  | .str x => some (.str x)
  | _ => none
def tupV : Val → Option Val
  | .lst xs => some (.tup xs)
  | .tup xs => some (.tup xs)
  | _ => none
def sumV : Val → Option Val
  | .lst xs => (intsOf xs).map fun ns => .int ns.sum
  | _ => none
def allV : Val → Option Val
  | .lst xs => (boolsOf xs).map fun bs => .bl (bs.all id)
  | _ => none
def anyV : Val → Option Val
  | .lst xs => (boolsOf xs).map fun bs => .bl (bs.any id)
  | _ => none
def maxV : Val → Option Val
  | .lst xs => (intsOf xs).bind fun ns => match ns with | [] => none | x :: r => some (.int (maxL x r))
  | _ => none
def minV : Val → Option Val
  | .lst xs => (intsOf xs).bind fun ns => match ns with | [] => none | x :: r => some (.int (minL x r))
  | _ => none
def bi1 : Bi → Val → Option Val
  | .len => lenV
  | .int_ => intV
  | .abs => absV
  | .str_ => strV
  | .repr => fun v => (reprOf v).map .str
  | .tuple_ => tupV
  | .sum => sumV
  | .all_ => allV
  | .any_ => anyV
  | .max_ => maxV
  | .min_ => minV
def maxW : Val → Val → Option Val
  | .int i, .int j => some (.int (if j > i then j else i))
  | _, _ => none
def minW : Val → Val → Option Val
  | .int i, .int j => some (.int (if j < i then j else i))
  | _, _ => none
def bi2 : Bi → Val → Val → Option Val
  | .max_ => maxW
  | .min_ => minW
  | _ => fun _ _ => none
def bicall (b : Bi) (vs : List Val) : Option Val := match vs with
  | [v] => bi1 b v
  | [v, w] => bi2 b v w
  | _ => none
def isiOf : Val → Ty → Option Bool
  | .non, .own _ => none
  | .bl _, .own _ => none
  | .int _, .own _ => none
  | .str _, .own _ => none
  | .tup _, .own _ => none
  | .lst _, .own _ => none
  | .int _, .int => some true
  | .bl _, .int => some true
  | .bl _, .bool => some true
  | .str _, .str => some true
  | .tup _, .tuple => some true
  | .lst _, .list => some true
  | .non, _ => some false
  | .bl _, _ => some false
  | .int _, _ => some false
  | .str _, _ => some false
  | .tup _, _ => some false
  | .lst _, _ => some false
  | _, _ => none

/-- a truth -/
def asB : Val → Option Bool
  | .bl b => some b
  | _ => none
def asI : Val → Option Int
  | .int i => some i
  | _ => none
def ofOpt {α : Type} (o : Option α) (h : Hs) : Out α := match o with
  | some a => .ok a h
  | none => .bad

/-! ### targets -/
mutual
def bindT : Tg → Val → Env → Option Env
  | .v i, x, e => some (e.set i (some (.v x)))
  | .t l, x, e => match x with
    | .tup vs => bindTs l vs e
    | _ => none
def bindTs : List Tg → List Val → Env → Option Env
  | [], vs, e => match vs with | [] => some e | _ => none
  | t :: ts, vs, e => match vs with
    | v :: vs => (bindT t v e).bind fun e => bindTs ts vs e
    | [] => none
end
mutual
def Tg.slots : Tg → List Nat
  | .v i => [i]
  | .t l => Tg.slotss l
def Tg.slotss : List Tg → List Nat
  | [] => []
  | g :: gs => g.slots ++ Tg.slotss gs
end
/-- the slots of a comprehension's own names forgotten -/
def wipeE (e : Env) : List Nat → Env
  | [] => e
  | i :: is => (wipeE e is).set i none

/-! ### walks -/
/-- no exception leaves a comprehension here -/
@[simp] def nx {α : Type} : Out α → Out α
  | .ok a h => .ok a h
  | .exc _ _ _ => .bad
  | .bad => .bad
def consO : Option Val → List Val → List Val
  | some x, r => x :: r
  | none, r => r
def mapF (g : Val → Hs → Out (Option Val)) : List Val → Hs → Out (List Val)
  | [], h => .ok [] h
  | v :: vs, h => (nx (g v h)).bind fun o h => (mapF g vs h).bind fun r h => .ok (consO o r) h
def mapL (g : Val → Hs → Out (List Val)) : List Val → Hs → Out (List Val)
  | [], h => .ok [] h
  | v :: vs, h => (nx (g v h)).bind fun o h => (mapL g vs h).bind fun r h => .ok (o ++ r) h
def rgOk (j : Int) : Bool := decide (-(2 ^ 62) ≤ j) && decide (j < 2 ^ 62)
def zipV : List Val → List Val → List Val
  | x :: xs, y :: ys => .tup [x, y] :: zipV xs ys
  | _, _ => []
def enumV : Nat → List Val → List Val
  | _, [] => []
  | n, x :: xs => .tup [.int n, x] :: enumV (n + 1) xs
def rngV (lo : Int) : Nat → List Val
  | 0 => []
  | n + 1 => .int lo :: rngV (lo + 1) n
/-- a key among the keys of a dict: ints, texts, tuples of these -/
def keyEq : Val → Val → Bool
  | .int i, .int j => i == j
  | .str x, .str y => x == y
  | .tup xs, .tup ys => veqs xs ys
  | _, _ => false
def dget : List Val → List Val → Val → Option Val
  | k :: ks, v :: vs, x => if keyEq k x then some v else dget ks vs x
  | _, _, _ => none
def repl : List Val → List Val → Val → Val → List Val
  | k :: ks, v :: vs, x, y => (if keyEq k x then y else v) :: repl ks vs x y
  | _, _, _, _ => []
def dput (ks vs : List Val) (x y : Val) : List Val × List Val := if ks.any (fun k => keyEq k x) then (ks, repl ks vs x y) else (ks ++ [x], vs ++ [y])
def flatK : Val → Bool
  | .int _ => true
  | .str x => sOk x
  | _ => false
/-- tuples of ints that may be keys -/
def keyT : Val → Bool
  | .tup vs => (intsOf vs).isSome
  | _ => false
def firstKs : List Val → List Val → List Val
  | acc, [] => acc
  | acc, k :: ks => firstKs (if acc.any (fun x => keyEq x k) then acc else acc ++ [k]) ks

def ownL (env : Env) (i : Nat) : Option (List Val) := match env[i]? with
  | some (some (.own vs)) => some vs
  | _ => none
def ownDL (env : Env) (i : Nat) : Option (List Val × List Val) := match env[i]? with
  | some (some (.ownD ks vs)) => some (ks, vs)
  | _ => none
def varV (env : Env) (i : Nat) : Option Val := match env[i]? with
  | some (some (.v x)) => some x
  | _ => none
/-- a turn of a comprehension -/
def keepIf (b : Bool) (m : Out Val) (h : Hs) : Out (Option Val) := if b then m.bind fun y h => .ok (some y) h else .ok none h
/-! ### expressions -/
section
variable (cf : Nat → List Val → Hs → Out Val)
mutual
def evE (e : E) (env : Env) (h : Hs) : Out Val := match e with
  | .lit l => .ok l.val h
  | .glb _ l => .ok l.val h
  | .var i => ofOpt (varV env i) h
  | .bin o a b => (evE a env h).bind fun x h => (evE b env h).bind fun y h => ofOpt (binop o x y) h
  | .neg a => (evE a env h).bind fun x h => ofOpt ((asI x).map fun i => .int (-i)) h
  | .not_ a => (evE a env h).bind fun x h => (ofOpt (asB x) h).bind fun b h => .ok (.bl (!b)) h
  | .and_ a b => (evE a env h).bind fun x h => (ofOpt (asB x) h).bind fun c h =>
      if c then (evE b env h).bind fun y h => (ofOpt (asB y) h).bind fun d h => .ok (.bl d) h else .ok (.bl false) h
  | .or_ a b => (evE a env h).bind fun x h => (ofOpt (asB x) h).bind fun c h =>
      if c then .ok (.bl true) h else (evE b env h).bind fun y h => (ofOpt (asB y) h).bind fun d h => .ok (.bl d) h
  | .ite c a b => (evE c env h).bind fun x h => (ofOpt (asB x) h).bind fun c h => if c then evE a env h else evE b env h
  | .cmp o a b => (evE a env h).bind fun x h => (evE b env h).bind fun y h => ofOpt ((cmpop o x y).map .bl) h
  | .chn o p a b c => (evE a env h).bind fun x h => (evE b env h).bind fun y h => (ofOpt (cmpop o x y) h).bind fun t h =>
      if t then (evE c env h).bind fun z h => ofOpt ((cmpop p y z).map .bl) h else .ok (.bl false) h
  | .tup es => (evEs es env h).bind fun vs h => .ok (.tup vs) h
  | .idx a i => (evE a env h).bind fun x h => (evE i env h).bind fun y h => ofOpt (getH h x y) h
  | .slc a lo hi => (evE a env h).bind fun x h => (evO lo env h).bind fun l h => (evO hi env h).bind fun u h => ofOpt (getS x l u) h
  | .rev a => (evE a env h).bind fun x h => ofOpt (getR x) h
  | .call f es ds => (evEs es env h).bind fun vs h => cf f (vs ++ ds.map Lit.val) h
  | .bi b es => (evEs es env h).bind fun vs h => ofOpt (bicall b vs) h
  | .isi a t => (evE a env h).bind fun x h => ofOpt ((isiOf x t).map .bl) h
  | .fr f => (evF f env h).bind fun vs h => .ok (.lst vs) h
  | .mk f => (evF f env h).bind fun vs h => .ok (.ref h.length) (h ++ [.lst vs])
  | .olen i => (ofOpt (ownL env i) h).bind fun vs h => .ok (.int vs.length) h
  | .oidx i e => (ofOpt (ownL env i) h).bind fun vs h => (evE e env h).bind fun y h => ofOpt ((asI y).bind fun k => atI vs k) h
  | .oemp i pos => (ofOpt (ownL env i) h).bind fun vs h => .ok (.bl (vs.isEmpty == pos)) h
  | .lenDC k tg it => (evIt it env h).bind fun xs h =>
      if decide (xs.length ≤ most) then
        (mapF (fun x h => (ofOpt (bindT tg x (wipeE env tg.slots)) h).bind fun env' h =>
          (evE k env' h).bind fun y h => if keyT y then .ok (some y) h else .bad) xs h).bind fun ks h => .ok (.int (firstKs [] ks).length) h
      else .bad
  | .lenSet f => (evF f env h).bind fun ks h => if ks.all keyT then .ok (.int (firstKs [] ks).length) h else .bad
def evEs (es : List E) (env : Env) (h : Hs) : Out (List Val) := match es with
  | [] => .ok [] h
  | e :: es => (evE e env h).bind fun x h => (evEs es env h).bind fun r h => .ok (x :: r) h
def evO (o : Option E) (env : Env) (h : Hs) : Out (Option Int) := match o with
  | none => .ok none h
  | some e => (evE e env h).bind fun x h => (ofOpt (asI x) h).bind fun i h => .ok (some i) h
def evF (f : FE) (env : Env) (h : Hs) : Out (List Val) := match f with
  | .lst es => evEs es env h
  | .of e => (evE e env h).bind fun x h => ofOpt (itemsOf x) h
  | .ofIt it => (evIt it env h).bind fun xs h => if decide (xs.length ≤ most) then .ok xs h else .bad
  | .items i => (ofOpt (ownDL env i) h).bind fun d h => .ok (zipV d.1 d.2) h
  | .rep f e => (evF f env h).bind fun vs h => (evE e env h).bind fun y h => (ofOpt (asI y) h).bind fun k h =>
      if decide (0 ≤ k) && (decide (k < 2 ^ 62) && decide (vs.length * k.toNat ≤ most)) then .ok (List.replicate k.toNat vs).flatten h else .bad
  | .cat a b => (evE a env h).bind fun x h => (evE b env h).bind fun y h => match x, y with
    | .lst xs, .lst ys => if xs.length + ys.length ≤ most then .ok (xs ++ ys) h else .bad
    | _, _ => .bad
  | .comp e tg it cs => (evIt it env h).bind fun xs h =>
      if decide (xs.length ≤ most) then
        mapF (fun x h => (ofOpt (bindT tg x (wipeE env tg.slots)) h).bind fun env' h => (evC cs env' h).bind fun b h => keepIf b (evE e env' h) h) xs h
      else .bad
  | .comp2 e tg it tg2 it2 cs => (evIt it env h).bind fun xs h =>
      if decide (xs.length ≤ most) then
        mapL (fun x h => (ofOpt (bindT tg x (wipeE env (tg.slots ++ tg2.slots))) h).bind fun env' h => (evIt it2 env' h).bind fun ys h =>
            if decide (ys.length ≤ most) then
              mapF (fun y h => (ofOpt (bindT tg2 y env') h).bind fun env2 h => (evC cs env2 h).bind fun b h => keepIf b (evE e env2 h) h) ys h
            else .bad) xs h
      else .bad
def evC (cs : List E) (env : Env) (h : Hs) : Out Bool := match cs with
  | [] => .ok true h
  | c :: cs => (evE c env h).bind fun x h => (ofOpt (asB x) h).bind fun b h => if b then evC cs env h else .ok false h
def evIt (it : It) (env : Env) (h : Hs) : Out (List Val) := match it with
  | .seq e => (evE e env h).bind fun x h => ofOpt (itemsOf x) h
  | .rng1 b => (evE b env h).bind fun x h => (ofOpt (asI x) h).bind fun j h => if rgOk j then .ok (rngV 0 j.toNat) h else .bad
  | .rng2 a b => (evE a env h).bind fun x h => (evE b env h).bind fun y h => (ofOpt (asI x) h).bind fun i h => (ofOpt (asI y) h).bind fun j h =>
      if rgOk i && rgOk j then .ok (rngV i (j - i).toNat) h else .bad
  | .enum e => (evE e env h).bind fun x h => (ofOpt (itemsOf x) h).bind fun xs h => .ok (enumV 0 xs) h
  | .zip a b => (evE a env h).bind fun x h => (evE b env h).bind fun y h => (ofOpt (itemsOf x) h).bind fun xs h => (ofOpt (itemsOf y) h).bind fun ys h => .ok (zipV xs ys) h
end

/-! ### statements -/
inductive Fl where
  | nxt | ret (v : Val)
inductive OutS where
  | ok (f : Fl) (env : Env) (h : Hs)
  | exc (c : Nat) (v : Val) (h : Hs)
  | bad
@[simp] def OutS.bind : OutS → (Env → Hs → OutS) → OutS
  | .ok .nxt e h, f => f e h
  | .ok (.ret v) e h, _ => .ok (.ret v) e h
  | .exc c v h, _ => .exc c v h
  | .bad, _ => .bad
@[simp] def Out.toS {α : Type} : Out α → (α → Hs → OutS) → OutS
  | .ok a h, f => f a h
  | .exc c v h, _ => .exc c v h
  | .bad, _ => .bad
def setSlots (env : Env) : List Nat → List Val → Env
  | i :: is, v :: vs => setSlots (env.set i (some (.v v))) is vs
  | _, _ => env
/-- o[k] = v of a list that changes -/
def setH (h : Hs) : Val → Val → Val → Option Hs
  | .ref n, .int k, v => match h[n]? with
    | some (.lst vs) => (ixN vs.length k).map fun j => h.set n (.lst (vs.set j v))
    | _ => none
  | _, _, _ => none
def augop : BOp → Val → Val → Option Val
  | .add, .int a, .int b => some (.int (a + b))
  | .sub, .int a, .int b => some (.int (a - b))
  | _, _, _ => none
/-- how many turns a while may take -/
def laps : Nat := 10 ^ 400
def loopF (g : Val → Env → Hs → OutS) : List Val → Env → Hs → OutS
  | [], env, h => .ok .nxt env h
  | v :: vs, env, h => (g v env h).bind fun env h => loopF g vs env h
def loopW (c : Env → Hs → Out Bool) (g : Env → Hs → OutS) : Nat → Env → Hs → OutS
  | 0, _, _ => .bad
  | n + 1, env, h => (c env h).toS fun b h => if b then (g env h).bind fun env h => loopW c g n env h else .ok .nxt env h
def setAt (x : Slot) (env : Env) (i : Nat) : Env := env.set i (some x)
mutual
def evS (s : S) (env : Env) (h : Hs) : OutS := match s with
  | .set i e => (evE cf e env h).toS fun x h => .ok .nxt (setAt (.v x) env i) h
  | .tset tg e => (evE cf e env h).toS fun x h => (ofOpt (bindT tg x env) h).toS fun env' h => .ok .nxt env' h
  | .par is es => (evEs cf es env h).toS fun vs h => .ok .nxt (setSlots env is vs) h
  | .unK is _ ns => .ok .nxt (setSlots env is (ns.map .int)) h
  | .own i f => (evF cf f env h).toS fun vs h => .ok .nxt (setAt (.own vs) env i) h
  | .ownD i => .ok .nxt (setAt (.ownD [] []) env i) h
  | .frz i => (ofOpt (ownL env i) h).toS fun vs h => .ok .nxt (setAt (.v (.lst vs)) env i) h
  | .app i e => (ofOpt (ownL env i) h).toS fun vs h => (evE cf e env h).toS fun x h => if decide (vs.length ≤ most) then .ok .nxt (setAt (.own (vs ++ [x])) env i) h else .bad
  | .appPop i j e => (ofOpt (ownL env i) h).toS fun vs h => (ofOpt (ownL env j) h).toS fun ws h => (evE cf e env h).toS fun x h => (ofOpt (asI x) h).toS fun k h =>
      if decide (0 ≤ k) && (decide (k < 2 ^ 62) && (decide (vs.length ≤ most) && decide (i ≠ j))) then
        (ofOpt ws[k.toNat]? h).toS fun y h => .ok .nxt (setAt (.own (vs ++ [y])) (setAt (.own (ws.eraseIdx k.toNat)) env j) i) h
      else .bad
  | .setI a i e => (evE cf e env h).toS fun v h => (evE cf a env h).toS fun o h => (evE cf i env h).toS fun k h => (ofOpt (setH h o k v) h).toS fun h' _ => .ok .nxt env h'
  | .oset x i e => (ofOpt (ownL env x) h).toS fun vs h => (evE cf e env h).toS fun v h => (evE cf i env h).toS fun k h => (ofOpt ((asI k).bind fun k => ixN vs.length k) h).toS fun j h =>
      .ok .nxt (setAt (.own (vs.set j v)) env x) h
  | .dset x k e => (ofOpt (ownDL env x) h).toS fun d h => (evE cf e env h).toS fun v h => (evE cf k env h).toS fun k h =>
      if keyT k && decide (d.1.length ≤ most) then .ok .nxt (setAt (.ownD (dput d.1 d.2 k v).1 (dput d.1 d.2 k v).2) env x) h else .bad
  | .aug i o e => (ofOpt (varV env i) h).toS fun x h => (evE cf e env h).toS fun y h => (ofOpt (augop o x y) h).toS fun z h => .ok .nxt (setAt (.v z) env i) h
  | .ret e => (evE cf e env h).toS fun x h => .ok (.ret x) env h
  | .retN => .ok (.ret .non) env h
  | .if_ c a b => (evE cf c env h).toS fun x h => (ofOpt (asB x) h).toS fun t h => if t then evSs a env h else evSs b env h
  | .for_ tg it b => (evIt cf it env h).toS fun xs h => loopF (fun x env h => (ofOpt (bindT tg x env) h).toS fun env' h => evSs b env' h) xs env h
  | .while_ c b => loopW (fun env h => (evE cf c env h).bind fun x h => ofOpt (asB x) h) (fun env h => evSs b env h) laps env h
  | .raise c e => (evE cf e env h).toS fun x h => .exc c x h
  | .ex e => (evE cf e env h).toS fun _ h => .ok .nxt env h
  | .pass => .ok .nxt env h
  | .nev => .bad
def evSs (ss : List S) (env : Env) (h : Hs) : OutS := match ss with
  | [] => .ok .nxt env h
  | s :: ss => (evS s env h).bind fun env h => evSs ss env h
end
end
/-! ### defs -/
def startE (n : Nat) (args : List Val) : Env := args.map (fun v => some (Slot.v v)) ++ List.replicate (n - args.length) none
/-- what a body's end is for its caller -/
def retOf : OutS → Out Val
  | .ok (.ret v) _ h => .ok v h
  | .ok .nxt _ h => .ok .non h
  | .exc c v h => .exc c v h
  | .bad => .bad
section
variable (U : Nat → Option FDef)
def callD : Nat → Nat → List Val → Hs → Out Val
  | 0, _, _, _ => .bad
  | k + 1, f, args, h => match U f with
    | some d => if args.length = d.ps then retOf (evSs (callD k) d.body (startE d.n args) h) else .bad
    | none => .bad
end
end Pyi
set_option Elab.async false
set_option linter.all false
set_option maxRecDepth 100000
set_option maxHeartbeats 1000000
/-! How a plain value stands in the abstract heap. -/
namespace Pyi
open PySem PySem.Spec PyProof.Rows L2

/-- what is fixed through a law: the written part, the classes' addresses -/
structure Wd where
  P : Program
  w : World
  K : PySem.W.Frag
  mg : Str → Option Value
  base : Heap
  ca : Nat → Addr

/-- a key as a value -/
def keyV : L2.Key → Val
  | .inl i => .int i
  | .inr s => .str s
section
variable (W : Wd) (F : Addr → Prop) (μ : List Addr) (H : Hp)
mutual
def RV : Val → V → Prop
  | .non, x => x = .non
  | .bl b, x => x = .bl b
  | .int i, x => x = .int i
  | .str s, x => x = .str s
  | .tup vs, x => ∃ a xs, x = .ref a ∧ F a ∧ H a = some (.tup xs) ∧ RVs vs xs
  | .lst vs, x => ∃ a xs, x = .ref a ∧ F a ∧ H a = some (.lst xs) ∧ RVs vs xs
  | .scr ns, x => ∃ a, x = .ref a ∧ ((F a ∧ Rd H a (.lst (ns.map V.int))) ∨ ∀ H' : Hp, SqL W.K H' a (ns.map V.int))
  | .dct ks vs, x => False
  | .inst c ns vs, x => ∃ a dx fs, x = .ref a ∧ F a ∧ F dx ∧ H a = some (.ins (W.ca c) dx fs) ∧ H dx = some (.own a) ∧ fs.map (·.1) = ns ∧ RVs vs (fs.map (·.2))
  | .exn c v, x => False
  | .ref n, x => ∃ a, μ[n]? = some a ∧ x = .ref a
def RVs : List Val → List V → Prop
  | [], xs => xs = []
  | v :: vs, xs => ∃ x r, xs = x :: r ∧ RV v x ∧ RVs vs r
end
def RObj : MObj → Addr → Prop
  | .lst vs, a => ∃ xs, H a = some (.lst xs) ∧ RVs W F μ H vs xs
  | .ins c ns vs, a => ∃ dx fs, H a = some (.ins (W.ca c) dx fs) ∧ fs.map (·.1) = ns ∧ RVs W F μ H vs (fs.map (·.2))
def RSlot : Slot → V → Prop
  | .v v, x => RV W F μ H v x
  | .own vs, x => ∃ a xs, x = .ref a ∧ H a = some (.lst xs) ∧ RVs W F μ H vs xs ∧ ¬ F a ∧ a ∉ μ
  | .ownD ks vs, x => ∃ a kvs, x = .ref a ∧ H a = some (.dT kvs) ∧ ¬ F a ∧ a ∉ μ ∧
      ks = kvs.map (fun p => Val.tup (p.1.map keyV)) ∧ RVs W F μ H vs (kvs.map (·.2))
  | .ownI ns vs, x => ∃ a dx fs, x = .ref a ∧ H a = some (.ins (W.ca 0) dx fs) ∧ fs.map (·.1) = ns ∧ RVs W F μ H vs (fs.map (·.2)) ∧ ¬ F a ∧ a ∉ μ
structure RSt (h : Hs) : Prop where
  len : μ.length = h.length
  nd : μ.Nodup
  ob : ∀ (n : Nat) o a, h[n]? = some o → μ[n]? = some a → RObj W F μ H o a
  nf : ∀ a, a ∈ μ → ¬ F a
  lm : ∀ a, a ∈ μ → H a ≠ none
  lf : ∀ a, F a → H a ≠ none
end
def isOwn : Slot → Bool
  | .v _ => false
  | _ => true
/-- what the frame alone holds -/
def OwnAt (env : Env) (σ : L2.St) (i : Nat) (a : Addr) : Prop := ∃ s, env[i]? = some (some s) ∧ isOwn s = true ∧ σ[i]? = some (some (.ref a))
def Own (env : Env) (σ : L2.St) (a : Addr) : Prop := ∃ i, OwnAt env σ i a
structure REnv (W : Wd) (F : Addr → Prop) (μ : List Addr) (H : Hp) (env : Env) (σ : L2.St) : Prop where
  len : env.length = σ.length
  sl : ∀ (i : Nat) s, env[i]? = some (some s) → ∃ x, σ[i]? = some (some x) ∧ RSlot W F μ H s x
  sep : ∀ i j a, OwnAt env σ i a → OwnAt env σ j a → i = j

/-- on from one state to a later one: expressions -/
structure Stp (F : Addr → Prop) (μ : List Addr) (H : Hp) (F' : Addr → Prop) (μ' : List Addr) (H' : Hp) : Prop where
  f : ∀ a, F a → F' a
  m : ∃ r, μ' = μ ++ r
  fz : ∀ a, F a → H' a = H a
  keep : ∀ b o, H b = some o → b ∉ μ → H' b = some o
  fn : ∀ a, F' a → F a ∨ H a = none ∨ ((∃ xs, H a = some (.tup xs)) ∧ a ∉ μ')
  mn : ∀ a, a ∈ μ' → a ∈ μ ∨ H a = none
  lv : ∀ a, H a ≠ none → H' a ≠ none

section
variable {W : Wd} {F F' F2 : Addr → Prop} {μ μ' μ2 : List Addr} {H H' H2 : Hp} {env : Env} {σ : L2.St}
theorem Stp.refl : Stp F μ H F μ H := ⟨fun _ h => h, ⟨[], (List.append_nil μ).symm⟩, fun _ _ => rfl, fun _ _ h _ => h, fun _ h => .inl h, fun _ h => .inl h, fun _ h => h⟩
theorem Stp.trans (a : Stp F μ H F' μ' H') (b : Stp F' μ' H' F2 μ2 H2) : Stp F μ H F2 μ2 H2 where
  f := fun x h => b.f x (a.f x h)
  m := by
    obtain ⟨r, e⟩ := a.m
    obtain ⟨q, e'⟩ := b.m
    exact ⟨r ++ q, by rw [e', e, List.append_assoc]⟩
  fz := fun x h => (b.fz x (a.f x h)).trans (a.fz x h)
  keep := fun x o h n => b.keep x o (a.keep x o h n) fun hm => by
    rcases a.mn x hm with h1 | h1
    · exact n h1
    · rw [h] at h1; cases h1
  fn := fun x h => by
    have back : H' x = none → H x = none := fun h1 => by
      cases q : H x with
      | none => rfl
      | some o => exact absurd h1 (a.lv x (by rw [q]; exact fun z => by cases z))
    have sub : x ∉ μ2 → x ∉ μ' := fun h1 h2 => h1 (by
      obtain ⟨r, e⟩ := b.m
      rw [e]
      exact List.mem_append_left _ h2)
    rcases b.fn x h with h1 | h1 | ⟨⟨xs, h1⟩, h2⟩
    · rcases a.fn x h1 with h3 | h3 | ⟨h3, h4⟩
      · exact .inl h3
      · exact .inr (.inl h3)
      · refine .inr (.inr ⟨h3, fun z => ?_⟩)
        rcases b.mn x z with y | y
        · exact h4 y
        · obtain ⟨xs, h3⟩ := h3
          exact a.lv x (by rw [h3]; exact fun z => by cases z) y
    · exact .inr (.inl (back h1))
    · cases q : H x with
      | none => exact .inr (.inl rfl)
      | some o =>
        have nm : x ∉ μ := fun z => sub h2 (by
          obtain ⟨r, e⟩ := a.m
          rw [e]
          exact List.mem_append_left _ z)
        have k := a.keep x o q nm
        rw [h1] at k
        exact .inr (.inr ⟨⟨xs, by rw [← k]⟩, h2⟩)
  mn := fun x h => by
    rcases b.mn x h with h1 | h1
    · exact a.mn x h1
    · refine .inr ?_
      cases q : H x with
      | none => rfl
      | some o => exact absurd h1 (a.lv x (by rw [q]; exact fun z => by cases z))
  lv := fun x h => b.lv x (a.lv x h)

theorem Stp.mu (a : Stp F μ H F' μ' H') {n : Nat} {x : Addr} (h : μ[n]? = some x) : μ'[n]? = some x := by
  obtain ⟨r, e⟩ := a.m
  rw [e, List.getElem?_append_left (List.getElem?_eq_some_iff.mp h).1]
  exact h
theorem Stp.mem (a : Stp F μ H F' μ' H') {x : Addr} (h : x ∈ μ) : x ∈ μ' := by
  obtain ⟨r, e⟩ := a.m
  rw [e]
  exact List.mem_append_left _ h

structure Mon (F : Addr → Prop) (μ : List Addr) (H : Hp) (F' : Addr → Prop) (μ' : List Addr) (H' : Hp) : Prop where
  f : ∀ a, F a → F' a
  mu : ∀ (n : Nat) (x : Addr), μ[n]? = some x → μ'[n]? = some x
  fz : ∀ a, F a → H' a = H a
theorem Stp.mon (a : Stp F μ H F' μ' H') : Mon F μ H F' μ' H' := ⟨a.f, fun _ _ => a.mu, a.fz⟩
mutual
theorem RV.mon (s : Mon F μ H F' μ' H') : ∀ (v : Val) (x : V), RV W F μ H v x → RV W F' μ' H' v x
  | .non, _, h => h
  | .bl _, _, h => h
  | .int _, _, h => h
  | .str _, _, h => h
  | .tup vs, x, h => by
    obtain ⟨a, xs, e, f, g, r⟩ := h
    exact ⟨a, xs, e, s.f a f, (s.fz a f).trans g, RVs.mon s vs xs r⟩
  | .lst vs, x, h => by
    obtain ⟨a, xs, e, f, g, r⟩ := h
    exact ⟨a, xs, e, s.f a f, (s.fz a f).trans g, RVs.mon s vs xs r⟩
  | .scr ns, x, h => by
    obtain ⟨a, e, q⟩ := h
    refine ⟨a, e, ?_⟩
    rcases q with ⟨f, g⟩ | q
    · refine .inl ⟨s.f a f, ?_⟩
      unfold Rd at g ⊢
      rw [s.fz a f]
      exact g
    · exact .inr q
  | .dct _ _, _, h => h
  | .inst c ns vs, x, h => by
    obtain ⟨a, dx, fs, e, f, fd, g, gd, n, r⟩ := h
    exact ⟨a, dx, fs, e, s.f a f, s.f dx fd, (s.fz a f).trans g, (s.fz dx fd).trans gd, n, RVs.mon s vs _ r⟩
  | .exn _ _, _, h => h
  | .ref n, x, h => by
    obtain ⟨a, e, q⟩ := h
    exact ⟨a, s.mu _ _ e, q⟩
theorem RVs.mon (s : Mon F μ H F' μ' H') : ∀ (vs : List Val) (xs : List V), RVs W F μ H vs xs → RVs W F' μ' H' vs xs
  | [], _, h => h
  | v :: vs, xs, h => by
    obtain ⟨x, r, e, h1, h2⟩ := h
    exact ⟨x, r, e, RV.mon s v x h1, RVs.mon s vs r h2⟩
end

theorem RV.mono (s : Stp F μ H F' μ' H') (v : Val) (x : V) (r : RV W F μ H v x) : RV W F' μ' H' v x := RV.mon s.mon v x r
theorem RVs.mono (s : Stp F μ H F' μ' H') (v : List Val) (x : List V) (r : RVs W F μ H v x) : RVs W F' μ' H' v x := RVs.mon s.mon v x r
theorem RVs.length : ∀ {vs : List Val} {xs : List V}, RVs W F μ H vs xs → vs.length = xs.length
  | [], _, h => by
    have e : _ = [] := h
    rw [e]
    rfl
  | _ :: vs, _, h => by
    obtain ⟨x, r, rfl, _, h2⟩ := h
    rw [List.length_cons, List.length_cons, RVs.length h2]
theorem RVs.get : ∀ {vs : List Val} {xs : List V} {n : Nat} {v : Val}, RVs W F μ H vs xs → vs[n]? = some v → ∃ x, xs[n]? = some x ∧ RV W F μ H v x
  | [], _, _, _, _, e => by simp at e
  | _ :: _, _, 0, _, h, e => by
    obtain ⟨x, r, rfl, h1, _⟩ := h
    have e' := Option.some.inj e
    rw [← e']
    exact ⟨x, rfl, h1⟩
  | _ :: vs, _, n + 1, _, h, e => by
    obtain ⟨x, r, rfl, _, h2⟩ := h
    exact RVs.get (n := n) h2 e
theorem RVs.append : ∀ {vs ws : List Val} {xs ys : List V}, RVs W F μ H vs xs → RVs W F μ H ws ys → RVs W F μ H (vs ++ ws) (xs ++ ys)
  | [], _, _, _, h, k => by
    have e : _ = [] := h
    rw [e]
    exact k
  | _ :: vs, _, _, _, h, k => by
    obtain ⟨x, r, rfl, h1, h2⟩ := h
    exact ⟨x, _, rfl, h1, RVs.append h2 k⟩
theorem RVs.take : ∀ {vs : List Val} {xs : List V} (n : Nat), RVs W F μ H vs xs → RVs W F μ H (vs.take n) (xs.take n)
  | _, _, 0, _ => rfl
  | [], _, _ + 1, h => by
    have e : _ = [] := h
    rw [e]
    rfl
  | _ :: vs, _, n + 1, h => by
    obtain ⟨x, r, rfl, h1, h2⟩ := h
    exact ⟨x, _, rfl, h1, RVs.take n h2⟩
theorem RVs.drop : ∀ {vs : List Val} {xs : List V} (n : Nat), RVs W F μ H vs xs → RVs W F μ H (vs.drop n) (xs.drop n)
  | _, _, 0, h => h
  | [], _, _ + 1, h => by
    have e : _ = [] := h
    rw [e]
    rfl
  | _ :: vs, _, n + 1, h => by
    obtain ⟨x, r, rfl, h1, h2⟩ := h
    exact RVs.drop n h2
theorem RVs.reverse : ∀ {vs : List Val} {xs : List V}, RVs W F μ H vs xs → RVs W F μ H vs.reverse xs.reverse
  | [], _, h => by
    have e : _ = [] := h
    rw [e]
    rfl
  | _ :: vs, _, h => by
    obtain ⟨x, r, rfl, h1, h2⟩ := h
    rw [List.reverse_cons, List.reverse_cons]
    exact RVs.append (RVs.reverse h2) ⟨x, [], rfl, h1, rfl⟩
theorem RVs.set : ∀ {vs : List Val} {xs : List V} {v : Val} {x : V} (n : Nat), RVs W F μ H vs xs → RV W F μ H v x → RVs W F μ H (vs.set n v) (xs.set n x)
  | [], _, _, _, _, h, _ => by
    have e : _ = [] := h
    rw [e]
    rfl
  | _ :: vs, _, _, _, 0, h, q => by
    obtain ⟨x, r, rfl, h1, h2⟩ := h
    exact ⟨_, r, rfl, q, h2⟩
  | _ :: vs, _, _, _, n + 1, h, q => by
    obtain ⟨x, r, rfl, h1, h2⟩ := h
    exact ⟨x, _, rfl, h1, RVs.set n h2 q⟩
theorem RVs.eraseIdx : ∀ {vs : List Val} {xs : List V} (n : Nat), RVs W F μ H vs xs → RVs W F μ H (vs.eraseIdx n) (xs.eraseIdx n)
  | [], _, _, h => by
    have e : _ = [] := h
    rw [e]
    rfl
  | _ :: vs, _, 0, h => by
    obtain ⟨x, r, rfl, h1, h2⟩ := h
    exact h2
  | _ :: vs, _, n + 1, h => by
    obtain ⟨x, r, rfl, h1, h2⟩ := h
    exact ⟨x, _, rfl, h1, RVs.eraseIdx n h2⟩
theorem RVs.ints : ∀ {ns : List Int}, RVs W F μ H (ns.map Val.int) (ns.map V.int)
  | [] => rfl
  | i :: ns => ⟨_, _, rfl, rfl, RVs.ints⟩
theorem RVs.ofInts : ∀ {vs : List Val} {ns : List Int} {xs : List V}, intsOf vs = some ns → RVs W F μ H vs xs → xs = ns.map V.int
  | [], ns, xs, e, h => by
    have e' : _ = [] := h
    cases e
    exact e'
  | v :: vs, ns, xs, e, h => by
    obtain ⟨x, r, rfl, h1, h2⟩ := h
    cases v with
    | int i =>
      obtain ⟨ms, e1, e2⟩ := Option.map_eq_some_iff.mp (show (intsOf vs).map (i :: ·) = some ns from e)
      have e3 : x = V.int i := h1
      rw [← e2, e3, RVs.ofInts e1 h2]
      rfl
    | _ => cases e
theorem RVs.ofBools : ∀ {vs : List Val} {ns : List Bool} {xs : List V}, boolsOf vs = some ns → RVs W F μ H vs xs → xs = ns.map V.bl
  | [], ns, xs, e, h => by
    have e' : _ = [] := h
    cases e
    exact e'
  | v :: vs, ns, xs, e, h => by
    obtain ⟨x, r, rfl, h1, h2⟩ := h
    cases v with
    | bl i =>
      obtain ⟨ms, e1, e2⟩ := Option.map_eq_some_iff.mp (show (boolsOf vs).map (i :: ·) = some ns from e)
      have e3 : x = V.bl i := h1
      rw [← e2, e3, RVs.ofBools e1 h2]
      rfl
    | _ => cases e

/-- a new object laid: F grows by it -/
theorem Stp.laid {p : Addr} {o : HO} (n : H p = none) (nm : p ∉ μ) (nf : ¬ F p) : Stp F μ H (fun a => F a ∨ a = p) μ (upd H p o) where
  f := fun _ h => .inl h
  m := ⟨[], (List.append_nil μ).symm⟩
  fz := fun a h => upd_ne fun e => nf (e ▸ h)
  keep := fun b u h _ => by rw [upd_ne (ne_of_none h n)]; exact h
  fn := fun a h => by
    rcases h with h | h
    · exact .inl h
    · rw [h]; exact .inr (.inl n)
  mn := fun _ h => .inl h
  lv := fun a h => by
    by_cases e : a = p
    · rw [e, upd_same]; exact fun z => by cases z
    · rw [upd_ne e]; exact h
/-- a new object laid, held by nobody yet -/
theorem Stp.fresh {p : Addr} {o : HO} (n : H p = none) (nf : ¬ F p) : Stp F μ H F μ (upd H p o) where
  f := fun _ h => h
  m := ⟨[], (List.append_nil μ).symm⟩
  fz := fun a h => upd_ne fun e => nf (e ▸ h)
  keep := fun b u h _ => by rw [upd_ne (ne_of_none h n)]; exact h
  fn := fun a h => .inl h
  mn := fun _ h => .inl h
  lv := fun a h => by
    by_cases e : a = p
    · rw [e, upd_same]; exact fun z => by cases z
    · rw [upd_ne e]; exact h
theorem RObj.mono (s : Stp F μ H F' μ' H') {o : MObj} {a : Addr} (e : H' a = H a) (r : RObj W F μ H o a) : RObj W F' μ' H' o a := by
  cases o with
  | lst vs =>
    obtain ⟨xs, g, q⟩ := r
    exact ⟨xs, e.trans g, RVs.mono s vs xs q⟩
  | ins c ns vs =>
    obtain ⟨dx, fs, g, n, q⟩ := r
    exact ⟨dx, fs, e.trans g, n, RVs.mono s vs _ q⟩
theorem RSt.notF {h : Hs} (r : RSt W F μ H h) {p : Addr} (n : H p = none) : ¬ F p := fun f => r.lf p f n
theorem RSt.notM {h : Hs} (r : RSt W F μ H h) {p : Addr} (n : H p = none) : p ∉ μ := fun f => r.lm p f n
/-- nothing of the changing objects changed, none came -/
theorem RSt.same {h : Hs} (r : RSt W F μ H h) (s : Stp F μ H F' μ H') (e : ∀ a, a ∈ μ → H' a = H a) (l : ∀ a, F' a → H' a ≠ none) : RSt W F' μ H' h where
  len := r.len
  nd := r.nd
  ob := fun n o a h1 h2 => RObj.mono s (e a (List.mem_of_getElem? h2)) (r.ob n o a h1 h2)
  nf := fun a h f => by
    rcases s.fn a f with f | f | f
    · exact r.nf a h f
    · exact r.lm a h f
    · exact f.2 h
  lm := fun a h => s.lv a (r.lm a h)
  lf := l
theorem RSt.laid {h : Hs} (r : RSt W F μ H h) {p : Addr} {o : HO} (n : H p = none) : RSt W (fun a => F a ∨ a = p) μ (upd H p o) h :=
  r.same (Stp.laid n (r.notM n) (r.notF n)) (fun a h => upd_ne (show a ≠ p from fun e => r.lm a h (by rw [e]; exact n))) fun a f => by
    rcases f with f | f
    · rw [upd_ne (show a ≠ p from fun e => r.notF n (e ▸ f))]; exact r.lf a f
    · rw [f, upd_same]; exact fun z => by cases z
theorem RSt.fresh {h : Hs} (r : RSt W F μ H h) {p : Addr} {o : HO} (n : H p = none) : RSt W F μ (upd H p o) h :=
  r.same (Stp.fresh n (r.notF n)) (fun a h => upd_ne (show a ≠ p from fun e => r.lm a h (by rw [e]; exact n))) fun a f => by
    rw [upd_ne (show a ≠ p from fun e => r.notF n (e ▸ f))]; exact r.lf a f
theorem RSlot.own_at {s : Slot} {x : V} (r : RSlot W F μ H s x) (o : isOwn s = true) : ∃ a, x = .ref a ∧ H a ≠ none ∧ ¬ F a ∧ a ∉ μ := by
  cases s with
  | v x => cases o
  | own vs =>
    obtain ⟨a, xs, e, g, _, f, m⟩ := r
    exact ⟨a, e, by rw [g]; exact (fun z => by cases z), f, m⟩
  | ownD ks vs =>
    obtain ⟨a, kvs, e, g, f, m, _⟩ := r
    exact ⟨a, e, by rw [g]; exact (fun z => by cases z), f, m⟩
  | ownI ns vs =>
    obtain ⟨a, dx, fs, e, g, _, _, f, m⟩ := r
    exact ⟨a, e, by rw [g]; exact (fun z => by cases z), f, m⟩
theorem RSlot.mono (s : Stp F μ H F' μ' H') {o : Slot} {x : V} (r : RSlot W F μ H o x) : RSlot W F' μ' H' o x := by
  have nf : ∀ a u, H a = some u → (∀ xs, u ≠ .tup xs) → ¬ F a → ¬ F' a := fun a u l nt f f' => by
    rcases s.fn a f' with z | z | ⟨⟨xs, z⟩, _⟩
    · exact f z
    · rw [l] at z
      cases z
    · rw [l] at z
      exact nt xs (Option.some.inj z)
  have nm : ∀ a, H a ≠ none → a ∉ μ → a ∉ μ' := fun a l f f' => by
    rcases s.mn a f' with z | z
    · exact f z
    · exact l z
  have ln : ∀ {a o}, H a = some o → H a ≠ none := fun e z => by rw [z] at e; cases e
  cases o with
  | v v => exact RV.mono s v x r
  | own vs =>
    obtain ⟨a, xs, e, g, q, f, m⟩ := r
    exact ⟨a, xs, e, s.keep a _ g m, RVs.mono s vs xs q, nf a _ g (fun _ z => by cases z) f, nm a (ln g) m⟩
  | ownD ks vs =>
    obtain ⟨a, kvs, e, g, f, m, k, q⟩ := r
    exact ⟨a, kvs, e, s.keep a _ g m, nf a _ g (fun _ z => by cases z) f, nm a (ln g) m, k, RVs.mono s vs _ q⟩
  | ownI ns vs =>
    obtain ⟨a, dx, fs, e, g, n, q, f, m⟩ := r
    exact ⟨a, dx, fs, e, s.keep a _ g m, n, RVs.mono s vs _ q, nf a _ g (fun _ z => by cases z) f, nm a (ln g) m⟩
theorem REnv.mono (s : Stp F μ H F' μ' H') (r : REnv W F μ H env σ) : REnv W F' μ' H' env σ where
  len := r.len
  sl := fun i t e => by
    obtain ⟨x, e1, q⟩ := r.sl i t e
    exact ⟨x, e1, q.mono s⟩
  sep := r.sep
end

/-! ### readings by the interpreter -/
section
variable (W : Wd) (Z : WX)
abbrev Ev (α : Type) := Env → Hs → Out α
/-- what is wanted of an exception of the class c with the value v, raised in the state of h' -/
def Exq (F : Addr → Prop) (μ : List Addr) (H : Hp) (σ : L2.St) (c : Nat) (v : Val) (h' : Hs) : Prop :=
  ∀ F' μ' H' d x, RSt W F' μ' H' h' → Stp F μ H F' μ' H' → H d = none → ¬ F' d → d ∉ μ' → H' d = some (.xd [("value", x)]) → RV W F' μ' H' v x → Z (.ref (W.ca c)) (some d) σ H'
/-- what is wanted behind a run -/
def Aft {γ : Type} : Out γ → (γ → Hs → Prop) → (Nat → Val → Hs → Prop) → Prop
  | .ok a h, g, _ => g a h
  | .exc c v h, _, x => x c v h
  | .bad, _, _ => False
/-- the common form; R: how what comes stands (H: the heap ahead) -/
def RDg {α β : Type} (R : Hp → (Addr → Prop) → List Addr → Hp → α → β → Prop) (m : Ev α) (σ : L2.St) (H : Hp) (Q : β → Hp → Prop) : Prop := ∃ F μ env h, RSt W F μ H h ∧ REnv W F μ H env σ ∧
  Aft (m env h) (fun v h' => ∀ F' μ' H' x, RSt W F' μ' H' h' → Stp F μ H F' μ' H' → R H F' μ' H' v x → Q x H') (Exq W Z F μ H σ)
abbrev RD (m : Ev Val) : TE := RDg W Z (fun _ F μ H v x => RV W F μ H v x) m
abbrev RDb (m : Ev Val) : TT := RDg W Z (fun _ _ _ _ b c => b = c) (fun env h => (m env h).bind fun x h => ofOpt (asB x) h)
abbrev RDs (m : Ev (List Val)) : TA := RDg W Z (fun _ F μ H v x => RVs W F μ H v x) m
/-- a list just made: nobody holds it -/
def Fresh (W : Wd) (H0 : Hp) (F : Addr → Prop) (μ : List Addr) (H : Hp) (vs : List Val) (x : V) : Prop := ∃ p xs, x = .ref p ∧ H0 p = none ∧ ¬ F p ∧ p ∉ μ ∧ H p = some (.lst xs) ∧ RVs W F μ H vs xs
abbrev RDf (m : Ev (List Val)) : TE := RDg W Z (Fresh W) m
/-- an optional int -/
abbrev RDo (m : Ev (Option Int)) : TO := RDg W Z (fun _ _ _ _ v b => v = b) m
end
section
variable {W : Wd} {X : Cx} {Z : WX}
theorem Exq.trans {F F1 : Addr → Prop} {μ μ1 : List Addr} {H H1 : Hp} {σ : L2.St} {c : Nat} {v : Val} {h' : Hs} (q : Exq W Z F μ H σ c v h') (s : Stp F μ H F1 μ1 H1) : Exq W Z F1 μ1 H1 σ c v h' :=
  fun F' μ' H' d x r t n f m e rv => q F' μ' H' d x r (s.trans t) (by
    cases hd : H d with
    | none => rfl
    | some o => exact absurd n (s.lv d (by rw [hd]; exact fun z => by cases z))) f m e rv
theorem PE.imp {e : Expr} {t t' : TE} (h : PE X e t) (i : ∀ σ H Q, t' σ H Q → t σ H Q) : PE X e t' := ⟨fun pins s σ H Q I q => h.run pins s σ H Q I (i σ H Q q)⟩
theorem PT.imp {e : Expr} {t t' : TT} (h : PT X e t) (i : ∀ σ H Q, t' σ H Q → t σ H Q) : PT X e t' := ⟨fun pins s σ H Q I q => h.run pins s σ H Q I (i σ H Q q)⟩
theorem PW.imp {e : Expr} {t t' : TT} (h : PW X e t) (i : ∀ σ H Q, t' σ H Q → t σ H Q) : PW X e t' := ⟨fun wh pins s σ H Q I q => h.run wh pins s σ H Q I (i σ H Q q)⟩
theorem PA.imp {e : List Expr} {t t' : TA} (h : PA X e t) (i : ∀ σ H Q, t' σ H Q → t σ H Q) : PA X e t' := ⟨fun pos pins s σ H Q I q => h.run pos pins s σ H Q I (i σ H Q q)⟩
theorem PO.imp {e : Option Expr} {t t' : TO} (h : PO X e t) (i : ∀ σ H Q, t' σ H Q → t σ H Q) : PO X e t' := ⟨fun pins s σ H Q I q => h.run pins s σ H Q I (i σ H Q q)⟩
/-- one step of a bind: what the first part asks -/
theorem rd_step {α β γ : Type} {R : Hp → (Addr → Prop) → List Addr → Hp → α → β → Prop} {m : Ev α} {f : α → Hs → Out γ} {σ : L2.St} {H : Hp} {Q : β → Hp → Prop}
    {F : Addr → Prop} {μ : List Addr} {env : Env} {h : Hs} {Good : γ → Hs → Prop} (r : RSt W F μ H h) (e : REnv W F μ H env σ)
    (q : Aft ((m env h).bind f) Good (Exq W Z F μ H σ))
    (k : ∀ v h' F' μ' H' x, RSt W F' μ' H' h' → REnv W F' μ' H' env σ → Stp F μ H F' μ' H' → R H F' μ' H' v x → Aft (f v h') Good (Exq W Z F' μ' H' σ) → Q x H') : RDg W Z R m σ H Q := by
  refine ⟨F, μ, env, h, r, e, ?_⟩
  cases h1 : m env h with
  | ok v h' =>
    rw [h1] at q
    intro F' μ' H' x r1 s1 v1
    refine k v h' F' μ' H' x r1 (e.mono s1) s1 v1 ?_
    have q' : Aft (f v h') Good (Exq W Z F μ H σ) := q
    cases h2 : f v h' with
    | ok w h2' =>
      rw [h2] at q'
      exact q'
    | exc c w h2' =>
      rw [h2] at q'
      exact Exq.trans q' s1
    | bad =>
      rw [h2] at q'
      exact q'
  | exc c v h' =>
    rw [h1] at q
    exact q
  | bad =>
    rw [h1] at q
    exact q
theorem aft_opt {γ : Type} {o : Option γ} {h : Hs} {g : γ → Hs → Prop} {x : Nat → Val → Hs → Prop} (q : Aft (ofOpt o h) g x) : ∃ a, o = some a ∧ g a h := by
  cases o with
  | some a => exact ⟨a, rfl, q⟩
  | none => exact q.elim
/-- an operation of two values, by the interpreter's own -/
def rG (W : Wd) (g : Val → Val → Option Val) : R2 := fun x y H Q => ∃ F μ h v w u, RSt W F μ H h ∧ RV W F μ H v x ∧ RV W F μ H w y ∧ g v w = some u ∧
  ∀ F' H' z, RSt W F' μ H' h → Stp F μ H F' μ H' → RV W F' μ H' u z → Q z H'
/-- of one -/
def rG1 (W : Wd) (g : Val → Option Val) : V → Hp → VK → Prop := fun x H Q => ∃ F μ h v u, RSt W F μ H h ∧ RV W F μ H v x ∧ g v = some u ∧
  ∀ F' H' z, RSt W F' μ H' h → Stp F μ H F' μ H' → RV W F' μ H' u z → Q z H'
/-- of a list of them -/
def rGs (W : Wd) (g : List Val → Option Val) : List V → Hp → VK → Prop := fun xs H Q => ∃ F μ h vs u, RSt W F μ H h ∧ RVs W F μ H vs xs ∧ g vs = some u ∧
  ∀ F' H' z, RSt W F' μ H' h → Stp F μ H F' μ H' → RV W F' μ H' u z → Q z H'
theorem rd_two {ma mb : Ev Val} {g : Val → Val → Option Val} {σ : L2.St} {H : Hp} {Q : VK}
    (q : RD W Z (fun env h => (ma env h).bind fun x h => (mb env h).bind fun y h => ofOpt (g x y) h) σ H Q) : tOp (rG W g) (RD W Z ma) (RD W Z mb) σ H Q := by
  obtain ⟨F, μ, env, h, r, e, m⟩ := q
  show RD W Z ma σ H fun x H1 => RD W Z mb σ H1 fun y H2 => rG W g x y H2 Q
  refine rd_step r e m fun v h' F1 μ1 H1 x r1 e1 s1 v1 m1 => ?_
  refine rd_step r1 e1 m1 fun w h2 F2 μ2 H2 y r2 e2 s2 v2 m2 => ?_
  obtain ⟨u, h3, k⟩ := aft_opt m2
  exact ⟨F2, μ2, h2, v, w, u, r2, RV.mono s2 v x v1, v2, h3, fun F3 H3 z r3 s3 v3 => k F3 μ2 H3 z r3 ((s1.trans s2).trans s3) v3⟩
theorem rd_one {ma : Ev Val} {g : Val → Option Val} {σ : L2.St} {H : Hp} {Q : VK}
    (q : RD W Z (fun env h => (ma env h).bind fun x h => ofOpt (g x) h) σ H Q) : tUn (rG1 W g) (RD W Z ma) σ H Q := by
  obtain ⟨F, μ, env, h, r, e, m⟩ := q
  show RD W Z ma σ H fun x H1 => rG1 W g x H1 Q
  refine rd_step r e m fun v h' F1 μ1 H1 x r1 e1 s1 v1 m1 => ?_
  obtain ⟨u, h3, k⟩ := aft_opt m1
  exact ⟨F1, μ1, h', v, u, r1, v1, h3, fun F3 H3 z r3 s3 v3 => k F3 μ1 H3 z r3 (s1.trans s3) v3⟩
theorem rd_many {ma : Ev (List Val)} {g : List Val → Option Val} {σ : L2.St} {H : Hp} {Q : VK}
    (q : RD W Z (fun env h => (ma env h).bind fun x h => ofOpt (g x) h) σ H Q) : tCB (rGs W g) (RDs W Z ma) σ H Q := by
  obtain ⟨F, μ, env, h, r, e, m⟩ := q
  show RDs W Z ma σ H fun x H1 => rGs W g x H1 Q
  refine rd_step r e m fun v h' F1 μ1 H1 x r1 e1 s1 v1 m1 => ?_
  obtain ⟨u, h3, k⟩ := aft_opt m1
  exact ⟨F1, μ1, h', v, u, r1, v1, h3, fun F3 H3 z r3 s3 v3 => k F3 μ1 H3 z r3 (s1.trans s3) v3⟩
end
end Pyi
set_option Elab.async false
set_option linter.all false
set_option maxRecDepth 100000
set_option maxHeartbeats 1000000
/-! The interpreter's operators are the model's. -/
namespace Pyi
open PySem PySem.Spec PyProof.Rows L2

def opB : BOp → Operator
  | .add => .Add | .sub => .Sub | .mul => .Mult | .fdiv => .FloorDiv | .mod => .Mod | .pow => .Pow
def opC : COp → CmpOp
  | .eq => .Eq | .ne => .NotEq | .lt => .Lt | .le => .LtE | .gt => .Gt | .ge => .GtE | .is_ => .Is | .isnot => .IsNot | .in_ => .In | .notin => .NotIn

section
variable {W : Wd} {X : Cx} {F : Addr → Prop} {μ : List Addr} {H : Hp} {h : Hs}
theorem most_line {n : Nat} (h : n ≤ most) : n ≤ sizeLine := Nat.le_trans h (by rw [sizeLine_eq]; decide)
theorem and2 {a b : Bool} (h : (a && b) = true) : a = true ∧ b = true := Bool.and_eq_true_iff.mp h
theorem sm_mul {i j : Int} (h : (sm i && sm j) = true) : CMulW i j := by
  obtain ⟨h1, h2⟩ := and2 h
  have h1' : i.natAbs < 2 ^ 400000 := of_decide_eq_true h1
  have h2' : j.natAbs < 2 ^ 400000 := of_decide_eq_true h2
  exact wide_mul h1' h2' (by decide) (by decide) (by decide)
theorem fd_ok {j : Int} (h : (decide (0 < j) && decide (j < 2 ^ 9000)) = true) : CDivW 0 j := by
  obtain ⟨h1, h2⟩ := and2 h
  have h1' : 0 < j := of_decide_eq_true h1
  have h2' : j < 2 ^ 9000 := of_decide_eq_true h2
  refine wide_div h1' (b := 9000) ?_ (by decide) (by decide)
  have h3 : (j.natAbs : Int) = j := Int.natAbs_of_nonneg (by omega)
  have h4 : (j.natAbs : Int) < ((2 ^ 9000 : Nat) : Int) := by
    rw [h3, Int.natCast_pow]
    exact h2'
  exact Int.ofNat_lt.mp h4
theorem seqT {v : List Val} {x : V} (r : RV W F μ H (.tup v) x) : ∃ a xs, x = .ref a ∧ SqT W.K H a xs ∧ RVs W F μ H v xs ∧ F a ∧ H a = some (.tup xs) := by
  obtain ⟨a, xs, e, f, g, q⟩ := r
  exact ⟨a, xs, e, SqT.of g, q, f, g⟩
theorem seqL {v : List Val} {x : V} (r : RV W F μ H (.lst v) x) : ∃ a xs, x = .ref a ∧ SqL W.K H a xs ∧ RVs W F μ H v xs ∧ F a ∧ H a = some (.lst xs) := by
  obtain ⟨a, xs, e, f, g, q⟩ := r
  exact ⟨a, xs, e, SqL.of g, q, f, g⟩
theorem seqS {v : List Int} {x : V} (r : RV W F μ H (.scr v) x) : ∃ a, x = .ref a ∧ SqL W.K H a (v.map V.int) := by
  obtain ⟨a, e, q⟩ := r
  rcases q with ⟨_, g⟩ | g
  · exact ⟨a, e, .inl g⟩
  · exact ⟨a, e, g H⟩
/-- a new tuple of values that stand -/
theorem newT (r : RSt W F μ H h) {vs : List Val} {xs : List V} (q : RVs W F μ H vs xs) {p : Addr} (n : H p = none) :
    RSt W (fun a => F a ∨ a = p) μ (upd H p (.tup xs)) h ∧ Stp F μ H (fun a => F a ∨ a = p) μ (upd H p (.tup xs)) ∧ RV W (fun a => F a ∨ a = p) μ (upd H p (.tup xs)) (.tup vs) (.ref p) := by
  have s : Stp F μ H (fun a => F a ∨ a = p) μ (upd H p (.tup xs)) := Stp.laid n (r.notM n) (r.notF n)
  exact ⟨r.laid n, s, p, xs, rfl, .inr rfl, upd_same, RVs.mono s vs xs q⟩
/-- what stands is handed back -/
theorem asIs (r : RSt W F μ H h) {v : Val} {x : V} {Q : VK} (q : RV W F μ H v x) (k : ∀ F' H' z, RSt W F' μ H' h → Stp F μ H F' μ H' → RV W F' μ H' v z → Q z H') : Q x H := k F H x r Stp.refl q

theorem op_B (hK : X.K = W.K) (o : BOp) : OpR X (binaryOp (opB o)) (rG W (binop o)) := by
  intro pins s σ H x y xv yv Q I rx ry hq
  obtain ⟨F, μ, h, v, w, u, r, hv, hw, e, k⟩ := hq
  have int2 : ∀ {i j : Int}, v = .int i → w = .int j → x = .int i ∧ y = .int j := fun {i j} e1 e2 => by
    subst e1 e2
    exact ⟨hv, hw⟩
  cases o with
  | add =>
    cases v with
    | int i =>
      have ex : x = .int i := hv
      cases w with
      | int j =>
        have ey : y = .int j := hw
        cases e
        exact op_add pins s σ H x y xv yv Q I rx ry ⟨i, j, ex, ey, k F H _ r Stp.refl rfl⟩
      | bl b =>
        have ey : y = .bl b := hw
        cases e
        exact op_add_ib pins s σ H x y xv yv Q I rx ry ⟨i, b, ex, ey, k F H _ r Stp.refl rfl⟩
      | _ => cases e
    | str a =>
      have ex : x = .str a := hv
      cases w with
      | str b =>
        have ey : y = .str b := hw
        have e' : (if a.length + b.length ≤ most then some (Val.str (a ++ b)) else none) = some u := e
        by_cases hl : a.length + b.length ≤ most
        · rw [if_pos hl] at e'
          cases e'
          exact op_add_str pins s σ H x y xv yv Q I rx ry ⟨a, b, ex, ey, most_line hl, k F H _ r Stp.refl rfl⟩
        · rw [if_neg hl] at e'
          cases e'
      | _ => cases e
    | tup vs =>
      cases w with
      | tup ws =>
        obtain ⟨a, xs, rfl, ta, qa, fa, ga⟩ := seqT hv
        obtain ⟨b, ys, rfl, tb, qb, fb, gb⟩ := seqT hw
        have e' : (if vs.length + ws.length ≤ most then some (Val.tup (vs ++ ws)) else none) = some u := e
        by_cases hl : vs.length + ws.length ≤ most
        · rw [if_pos hl] at e'
          cases e'
          refine op_catA pins s σ H _ _ xv yv Q I rx ry ⟨a, b, xs, ys, rfl, rfl, by rw [hK]; exact ta, by rw [hK]; exact tb, most_line (by rw [← RVs.length qa, ← RVs.length qb]; exact hl), fun z => ?_, fun _ z => ?_, fun _ _ p np => ?_⟩
          · subst z
            have ev : vs = [] := List.eq_nil_of_length_eq_zero (RVs.length qa)
            subst ev
            exact asIs r hw k
          · subst z
            have ev : ws = [] := List.eq_nil_of_length_eq_zero (RVs.length qb)
            subst ev
            rw [List.append_nil] at k
            exact asIs r hv k
          · obtain ⟨r1, s1, v1⟩ := newT r (RVs.append qa qb) np
            exact k _ _ _ r1 s1 v1
        · rw [if_neg hl] at e'
          cases e'
      | _ => cases e
    | _ => cases e
  | sub =>
    cases v with
    | int i => cases w with
      | int j =>
        obtain ⟨ex, ey⟩ := int2 rfl rfl
        cases e
        exact op_sub pins s σ H x y xv yv Q I rx ry ⟨i, j, ex, ey, k F H _ r Stp.refl rfl⟩
      | _ => cases e
    | _ => cases e
  | mul =>
    cases v with
    | int i => cases w with
      | int j =>
        obtain ⟨ex, ey⟩ := int2 rfl rfl
        have e' : (if (sm i && sm j) = true then some (Val.int (i * j)) else none) = some u := e
        by_cases hl : (sm i && sm j) = true
        · rw [if_pos hl] at e'
          cases e'
          exact op_mulW pins s σ H x y xv yv Q I rx ry ⟨i, j, ex, ey, sm_mul hl, k F H _ r Stp.refl rfl⟩
        · rw [if_neg hl] at e'
          cases e'
      | _ => cases e
    | _ => cases e
  | fdiv =>
    cases v with
    | int i => cases w with
      | int j =>
        obtain ⟨ex, ey⟩ := int2 rfl rfl
        have e' : (if (decide (0 < j) && decide (j < 2 ^ 9000)) = true then some (Val.int (i / j)) else none) = some u := e
        by_cases hl : (decide (0 < j) && decide (j < 2 ^ 9000)) = true
        · rw [if_pos hl] at e'
          cases e'
          exact op_fdivW pins s σ H x y xv yv Q I rx ry ⟨i, j, ex, ey, fd_ok hl, k F H _ r Stp.refl rfl⟩
        · rw [if_neg hl] at e'
          cases e'
      | _ => cases e
    | _ => cases e
  | mod =>
    cases v with
    | int i => cases w with
      | int j =>
        obtain ⟨ex, ey⟩ := int2 rfl rfl
        have e' : (if decide (0 < j) = true then some (Val.int (i % j)) else none) = some u := e
        by_cases hl : 0 < j
        · rw [if_pos (decide_eq_true hl)] at e'
          cases e'
          exact op_mod pins s σ H x y xv yv Q I rx ry ⟨i, j, ex, ey, hl, k F H _ r Stp.refl rfl⟩
        · rw [decide_eq_false hl] at e'
          cases e'
      | _ => cases e
    | _ => cases e
  | pow =>
    cases v with
    | int i => cases w with
      | int j =>
        obtain ⟨ex, ey⟩ := int2 rfl rfl
        have e' : (if (decide (0 ≤ j) && (decide (j ≤ 100) && decide (i.natAbs < 2 ^ 100000))) = true then some (Val.int (i ^ j.toNat)) else none) = some u := e
        by_cases hl : (decide (0 ≤ j) && (decide (j ≤ 100) && decide (i.natAbs < 2 ^ 100000))) = true
        · rw [if_pos hl] at e'
          cases e'
          obtain ⟨h1, h2⟩ := and2 hl
          obtain ⟨h2, h3⟩ := and2 h2
          have h1' : 0 ≤ j := of_decide_eq_true h1
          have h2' : j ≤ 100 := of_decide_eq_true h2
          have h3' : i.natAbs < 2 ^ 100000 := of_decide_eq_true h3
          subst ex ey
          obtain ⟨t, rfl⟩ := rx
          obtain ⟨t', rfl⟩ := ry
          refine pow_int h1' ?_ ⟨.int _, H, I.tok _, ⟨_, rfl⟩, k F H _ r Stp.refl rfl⟩
          have hb : Builtin.Int.intBits i ≤ 100001 := by
            have l := PySem.Flt.log2_lt_of (k := 100000) (by decide) h3'
            unfold Builtin.Int.intBits
            split <;> omega
          have hm : (Builtin.Int.intBits i : Int) * j ≤ 100001 * 100 := Int.mul_le_mul (by omega) h2' h1' (by omega)
          exact Int.le_trans hm (by decide)
        · rw [if_neg hl] at e'
          cases e'
      | _ => cases e
    | _ => cases e

/-! ### == -/
mutual
theorem canLay_D : ∀ v : Val, isD v = true → strsOk v = true → (toD v).canLay0 = true
  | .non, _, _ => rfl
  | .bl _, _, _ => rfl
  | .int _, _, _ => rfl
  | .str x, _, h => h
  | .tup vs, h, h' => canLay_Ds vs h h'
  | .lst vs, h, h' => canLay_Ds vs h h'
  | .scr _, h, _ => by cases h
  | .dct _ _, h, _ => by cases h
  | .inst _ _ _, h, _ => by cases h
  | .exn _ _, h, _ => by cases h
  | .ref _, h, _ => by cases h
theorem canLay_Ds : ∀ vs : List Val, isDs vs = true → strsOks vs = true → PyData.canLayAll0 (toDs vs) = true
  | [], _, _ => rfl
  | v :: vs, h, h' => by
    obtain ⟨a, b⟩ := and2 (show (isD v && isDs vs) = true from h)
    obtain ⟨a', b'⟩ := and2 (show (strsOk v && strsOks vs) = true from h')
    show ((toD v).canLay0 && PyData.canLayAll0 (toDs vs)) = true
    rw [canLay_D v a a', canLay_Ds vs b b']
    rfl
end
mutual
theorem dep_D : ∀ v : Val, (toD v).depth ≤ dep v
  | .non => Nat.le_refl _
  | .bl _ => Nat.le_refl _
  | .int _ => Nat.le_refl _
  | .str _ => Nat.le_refl _
  | .tup vs => Nat.succ_le_succ (dep_Ds vs)
  | .lst vs => Nat.succ_le_succ (dep_Ds vs)
  | .scr _ => Nat.zero_le _
  | .dct _ _ => Nat.zero_le _
  | .inst _ _ _ => Nat.zero_le _
  | .exn _ _ => Nat.zero_le _
  | .ref _ => Nat.zero_le _
theorem dep_Ds : ∀ vs : List Val, PyData.depthAll (toDs vs) ≤ deps vs
  | [] => Nat.le_refl _
  | v :: vs => by
    show max (toD v).depth (PyData.depthAll (toDs vs)) ≤ max (dep v) (deps vs)
    have h1 := dep_D v
    have h2 := dep_Ds vs
    omega
end
mutual
theorem dp_D : ∀ (v : Val) (x : V), isD v = true → RV W F μ H v x → Dp W.K H x (toD v)
  | .non, x, _, r => by
    have e : x = .non := r
    rw [e]
    exact .non
  | .bl b, x, _, r => by
    have e : x = .bl b := r
    rw [e]
    exact .bl b
  | .int b, x, _, r => by
    have e : x = .int b := r
    rw [e]
    exact .int b
  | .str b, x, _, r => by
    have e : x = .str b := r
    rw [e]
    exact .str b
  | .tup vs, x, h, r => by
    obtain ⟨a, xs, rfl, t, q, _, _⟩ := seqT r
    exact .tup t (dp_Ds vs xs h q)
  | .lst vs, x, h, r => by
    obtain ⟨a, xs, rfl, t, q, _, _⟩ := seqL r
    exact .lst t (dp_Ds vs xs h q)
  | .scr _, _, h, _ => by cases h
  | .dct _ _, _, h, _ => by cases h
  | .inst _ _ _, _, h, _ => by cases h
  | .exn _ _, _, h, _ => by cases h
  | .ref _, _, h, _ => by cases h
theorem dp_Ds : ∀ (vs : List Val) (xs : List V), isDs vs = true → RVs W F μ H vs xs → DpAll W.K H xs (toDs vs)
  | [], xs, _, r => by
    have e : xs = [] := r
    rw [e]
    exact .nil
  | v :: vs, xs, h, r => by
    obtain ⟨x, q, rfl, h1, h2⟩ := r
    obtain ⟨a, b⟩ := and2 (show (isD v && isDs vs) = true from h)
    exact .cons (dp_D v x a h1) (dp_Ds vs q b h2)
end
mutual
theorem eqv_D : ∀ (v w : Val), isD v = true → isD w = true → PyData.eqv (toD v) (toD w) = veq v w
  | .non, w, _, h => by cases w <;> first | rfl | cases h
  | .bl a, w, _, h => by cases w <;> first | rfl | cases h
  | .int i, w, _, h => by cases w <;> first | rfl | cases h
  | .str x, w, _, h => by cases w <;> first | rfl | cases h
  | .tup vs, w, h', h => by
    cases w with
    | tup ws => exact eqv_Ds vs ws h' h
    | _ => first | rfl | cases h
  | .lst vs, w, h', h => by
    cases w with
    | lst ws => exact eqv_Ds vs ws h' h
    | _ => first | rfl | cases h
  | .scr _, _, h, _ => by cases h
  | .dct _ _, _, h, _ => by cases h
  | .inst _ _ _, _, h, _ => by cases h
  | .exn _ _, _, h, _ => by cases h
  | .ref _, _, h, _ => by cases h
theorem eqv_Ds : ∀ (vs ws : List Val), isDs vs = true → isDs ws = true → PyData.eqvAll (toDs vs) (toDs ws) = veqs vs ws
  | [], [], _, _ => rfl
  | [], _ :: _, _, _ => rfl
  | _ :: _, [], _, _ => rfl
  | v :: vs, w :: ws, h, h' => by
    obtain ⟨a, b⟩ := and2 (show (isD v && isDs vs) = true from h)
    obtain ⟨a', b'⟩ := and2 (show (isD w && isDs ws) = true from h')
    show (PyData.eqv (toD v) (toD w) && PyData.eqvAll (toDs vs) (toDs ws)) = (veq v w && veqs vs ws)
    rw [eqv_D v w a a', eqv_Ds vs ws b b']
end
theorem shaped_of {v : Val} (h : eqOk v = true) (h' : strsOk v = true) : SeqAt.shaped (toD v) = true := by
  obtain ⟨a, b⟩ := and2 h
  have b' : dep v ≤ 60 := of_decide_eq_true b
  have d := dep_D v
  unfold SeqAt.shaped
  rw [canLay_D v a h', decide_eq_true (show (toD v).depth ≤ 64 by omega)]
  rfl
/-- a comparison, as a truth -/
def rC (W : Wd) (o : COp) : R2 := rG W (fun v w => (cmpop o v w).map .bl)
theorem op_C (hK : X.K = W.K) (hu : X.A.units + 64 < cLine) (o : COp) : OpR X (compareOp (opC o)) (rC W o) := by
  intro pins s σ H x y xv yv Q I rx ry hq
  obtain ⟨F, μ, h, v, w, u, r, hv, hw, e, k⟩ := hq
  obtain ⟨b, eb, eu⟩ := Option.map_eq_some_iff.mp e
  subst eu
  have fin : Q (.bl b) H := k F H _ r Stp.refl rfl
  have isN : ∀ {b : Bool}, isNon v = b → b = decide (x = V.non) := fun {b} q => by
    cases v with
    | non =>
      have ex : x = .non := hv
      rw [ex, ← q]
      rfl
    | bl c =>
      have ex : x = .bl c := hv
      rw [ex, ← q]
      rfl
    | int c =>
      have ex : x = .int c := hv
      rw [ex, ← q]
      rfl
    | str c =>
      have ex : x = .str c := hv
      rw [ex, ← q]
      rfl
    | tup vs =>
      obtain ⟨a, _, ex, _⟩ := hv
      rw [ex, ← q]
      rfl
    | lst vs =>
      obtain ⟨a, _, ex, _⟩ := hv
      rw [ex, ← q]
      rfl
    | scr vs =>
      obtain ⟨a, ex, _⟩ := hv
      rw [ex, ← q]
      rfl
    | dct _ _ => exact hv.elim
    | inst _ _ _ =>
      obtain ⟨a, _, _, ex, _⟩ := hv
      rw [ex, ← q]
      rfl
    | exn _ _ => exact hv.elim
    | ref n =>
      obtain ⟨a, _, ex⟩ := hv
      rw [ex, ← q]
      rfl
  have two : ∀ {i j : Int}, v = .int i → w = .int j → x = .int i ∧ y = .int j := fun {i j} e1 e2 => by
    subst e1 e2
    exact ⟨hv, hw⟩
  cases o with
  | lt => cases v with
    | int i => cases w with
      | int j =>
        obtain ⟨ex, ey⟩ := two rfl rfl
        cases eb
        exact op_lt pins s σ H x y xv yv Q I rx ry ⟨i, j, ex, ey, fin⟩
      | _ => cases eb
    | _ => cases eb
  | le => cases v with
    | int i => cases w with
      | int j =>
        obtain ⟨ex, ey⟩ := two rfl rfl
        cases eb
        exact op_le pins s σ H x y xv yv Q I rx ry ⟨i, j, ex, ey, fin⟩
      | _ => cases eb
    | _ => cases eb
  | gt => cases v with
    | int i => cases w with
      | int j =>
        obtain ⟨ex, ey⟩ := two rfl rfl
        cases eb
        exact op_gt pins s σ H x y xv yv Q I rx ry ⟨i, j, ex, ey, fin⟩
      | _ => cases eb
    | _ => cases eb
  | ge => cases v with
    | int i => cases w with
      | int j =>
        obtain ⟨ex, ey⟩ := two rfl rfl
        cases eb
        exact op_ge pins s σ H x y xv yv Q I rx ry ⟨i, j, ex, ey, fin⟩
      | _ => cases eb
    | _ => cases eb
  | is_ =>
    cases w with
    | non =>
      have ey : y = .non := hw
      have eb' : isNon v = b := by
        cases v <;> exact Option.some.inj eb
      rw [isN eb'] at fin
      exact op_isN pins s σ H x y xv yv Q I rx ry ⟨ey, fin⟩
    | bl c => cases v with
      | bl a =>
        have ex : x = .bl a := hv
        have ey : y = .bl c := hw
        have eb' : (a == c) = b := Option.some.inj eb
        refine op_isBl pins s σ H x y xv yv Q I rx ry ⟨a, c, ex, ey, ?_⟩
        rw [← eb'] at fin
        exact fin
      | _ => cases eb
    | _ => cases v <;> cases eb
  | isnot =>
    cases w with
    | non =>
      have ey : y = .non := hw
      have eb' : isNon v = !b := by
        cases v <;> (have q := Option.some.inj eb; rw [← q] <;> rfl)
      have q := isN eb'
      refine op_notN pins s σ H x y xv yv Q I rx ry ⟨ey, ?_⟩
      rw [← q, Bool.not_not]
      exact fin
    | bl c => cases v with
      | bl a =>
        have ex : x = .bl a := hv
        have ey : y = .bl c := hw
        have eb' : (a != c) = b := Option.some.inj eb
        refine op_notBl pins s σ H x y xv yv Q I rx ry ⟨a, c, ex, ey, ?_⟩
        rw [← eb'] at fin
        exact fin
      | _ => cases eb
    | _ => cases v <;> cases eb
  | eq =>
    have eb' : (if (eqOk v && eqOk w && (strsOk v && strsOk w)) = true then some (veq v w) else none) = some b := by
      cases v <;> cases w <;> exact eb
    by_cases hc : (eqOk v && eqOk w && (strsOk v && strsOk w)) = true
    · rw [if_pos hc] at eb'
      cases eb'
      obtain ⟨h1, h2⟩ := and2 hc
      obtain ⟨h1, h3⟩ := and2 h1
      obtain ⟨h2, h4⟩ := and2 h2
      have d1 := (and2 (show (isD v && decide (dep v ≤ 60)) = true from h1)).1
      have d2 := (and2 (show (isD w && decide (dep w ≤ 60)) = true from h3)).1
      refine op_eqD hu pins s σ H x y xv yv Q I rx ry ⟨toD v, toD w, by rw [hK]; exact dp_D v x d1 hv, by rw [hK]; exact dp_D w y d2 hw, shaped_of h1 h2, shaped_of h3 h4, ?_⟩
      rw [eqv_D v w d1 d2]
      exact fin
    · rw [if_neg hc] at eb'
      cases eb'
  | ne =>
    have eb' : (if (eqOk v && eqOk w && (strsOk v && strsOk w)) = true then some (!veq v w) else none) = some b := by
      cases v <;> cases w <;> exact eb
    by_cases hc : (eqOk v && eqOk w && (strsOk v && strsOk w)) = true
    · rw [if_pos hc] at eb'
      cases eb'
      obtain ⟨h1, h2⟩ := and2 hc
      obtain ⟨h1, h3⟩ := and2 h1
      obtain ⟨h2, h4⟩ := and2 h2
      have d1 := (and2 (show (isD v && decide (dep v ≤ 60)) = true from h1)).1
      have d2 := (and2 (show (isD w && decide (dep w ≤ 60)) = true from h3)).1
      refine op_neD hu pins s σ H x y xv yv Q I rx ry ⟨toD v, toD w, by rw [hK]; exact dp_D v x d1 hv, by rw [hK]; exact dp_D w y d2 hw, shaped_of h1 h2, shaped_of h3 h4, ?_⟩
      rw [eqv_D v w d1 d2]
      exact fin
    · rw [if_neg hc] at eb'
      cases eb'
  | in_ => cases v <;> cases w <;> cases eb
  | notin => cases v <;> cases w <;> cases eb
end
end Pyi
set_option Elab.async false
set_option linter.all false
set_option maxRecDepth 100000
set_option maxHeartbeats 1000000
/-! Items, slices, built-in functions. -/
namespace Pyi
open PySem PySem.Spec PyProof.Rows L2

section
variable {W : Wd} {X : Cx} {F : Addr → Prop} {μ : List Addr} {H : Hp} {h : Hs}
theorem ixN_eq : Pyi.ixN = L2.ixN := rfl
theorem atI_eq {α : Type} (xs : List α) (i : Int) : Pyi.atI xs i = L2.atI xs i := rfl
theorem sIx_eq : Pyi.sIx = HT.sIx := by
  funext n d o
  cases o <;> rfl
theorem atI_rel {vs : List Val} {xs : List V} {i : Int} {v : Val} (q : RVs W F μ H vs xs) (e : Pyi.atI vs i = some v) : ∃ x, L2.atI xs i = some x ∧ RV W F μ H v x := by
  have l := RVs.length q
  unfold Pyi.atI at e
  cases hn : Pyi.ixN vs.length i with
  | none =>
    rw [hn] at e
    cases e
  | some j =>
    rw [hn] at e
    obtain ⟨x, e1, r⟩ := RVs.get q (show vs[j]? = some v from e)
    refine ⟨x, ?_, r⟩
    unfold L2.atI
    rw [← l, ← ixN_eq, hn]
    exact e1
theorem map_atI {ns : List Int} {i k : Int} (e : Pyi.atI ns i = some k) : L2.atI (ns.map V.int) i = some (.int k) := by
  unfold Pyi.atI at e
  unfold L2.atI
  rw [List.length_map, ← ixN_eq]
  cases hn : Pyi.ixN ns.length i with
  | none =>
    rw [hn] at e
    cases e
  | some j =>
    rw [hn] at e
    have e' : ns[j]? = some k := e
    show (ns.map V.int)[j]? = some (.int k)
    rw [List.getElem?_map, e']
    rfl
theorem ix_G (hK : X.K = W.K) : IxR X (rG W getI) := by
  intro value slice pins s σ H x y xv yv Q I rx ry hq hs
  obtain ⟨F, μ, h, v, w, u, r, hv, hw, e, k⟩ := hq
  cases w with
  | int i =>
    have ey : y = .int i := hw
    cases v with
    | tup vs =>
      obtain ⟨a, xs, rfl, t, q, _, _⟩ := seqT hv
      obtain ⟨z, e1, r1⟩ := atI_rel q (show Pyi.atI vs i = some u from e)
      exact ix_tup value slice pins s σ H _ _ xv yv Q I rx ry ⟨a, xs, i, z, rfl, ey, by rw [hK]; exact t, e1, k F H z r Stp.refl r1⟩ hs
    | lst vs =>
      obtain ⟨a, xs, rfl, t, q, _, _⟩ := seqL hv
      obtain ⟨z, e1, r1⟩ := atI_rel q (show Pyi.atI vs i = some u from e)
      exact ix_list value slice pins s σ H _ _ xv yv Q I rx ry ⟨a, xs, i, z, rfl, ey, by rw [hK]; exact t, e1, k F H z r Stp.refl r1⟩ hs
    | scr ns =>
      obtain ⟨a, rfl, t⟩ := seqS hv
      obtain ⟨j, e1, e2⟩ := Option.map_eq_some_iff.mp (show (Pyi.atI ns i).map Val.int = some u from e)
      subst e2
      exact ix_list value slice pins s σ H _ _ xv yv Q I rx ry ⟨a, _, i, .int j, rfl, ey, by rw [hK]; exact t, map_atI e1, k F H _ r Stp.refl rfl⟩ hs
    | _ => cases e
  | _ => cases v <;> cases e
theorem cut_rel {vs : List Val} {xs : List V} (lo hi : Option Int) (q : RVs W F μ H vs xs) : RVs W F μ H (cut vs lo hi) (cutV xs lo hi) := by
  unfold cut cutV
  rw [sIx_eq, RVs.length q]
  exact RVs.take _ (RVs.drop _ q)
/-- a slice, by values -/
def rGS (W : Wd) : V → Option Int → Option Int → Hp → VK → Prop := fun x lo hi H Q => ∃ F μ h v u, RSt W F μ H h ∧ RV W F μ H v x ∧ getS v lo hi = some u ∧
  ∀ F' H' z, RSt W F' μ H' h → Stp F μ H F' μ H' → RV W F' μ H' u z → Q z H'
theorem sl_G (hK : X.K = W.K) : SlR X (rGS W) := by
  intro pins s σ H x xv vl vu lo hi sl Q I rx hs pl pu hq
  obtain ⟨F, μ, h, v, u, r, hv, e, k⟩ := hq
  cases v with
  | tup vs =>
    obtain ⟨a, xs, rfl, t, q, fa, ga⟩ := seqT hv
    have e' : Val.tup (cut vs lo hi) = u := Option.some.inj e
    subst e'
    refine sl_tupA pins s σ H _ xv vl vu lo hi sl Q I rx hs pl pu ⟨a, xs, rfl, by rw [hK]; exact t, fun hw => ?_, fun _ p np => ?_⟩
    · have ec : cut vs lo hi = vs := by
        unfold cut
        rw [sIx_eq, RVs.length q, hw.1, hw.2, List.drop_zero, Nat.sub_zero, ← RVs.length q, List.take_length]
      rw [ec] at k
      exact asIs r hv k
    · obtain ⟨r1, s1, v1⟩ := newT r (cut_rel lo hi q) np
      exact k _ _ _ r1 s1 v1
  | _ => cases e

/-! ### repr -/
mutual
theorem showable_D : ∀ v : Val, isD v = true → showI v = true → (toD v).showable = true
  | .non, _, _ => rfl
  | .bl _, _, _ => rfl
  | .int i, _, h => by
    have h' : i.natAbs < 2 ^ 1900 := of_decide_eq_true h
    have l := PySem.Flt.log2_lt_of (k := 1900) (by decide) h'
    show decide (i.natAbs.log2 < 1920) = true
    exact decide_eq_true (by omega)
  | .str x, _, h => rfl
  | .tup vs, h, h' => showable_Ds vs h h'
  | .lst vs, h, h' => showable_Ds vs h h'
  | .scr _, h, _ => by cases h
  | .dct _ _, h, _ => by cases h
  | .inst _ _ _, h, _ => by cases h
  | .exn _ _, h, _ => by cases h
  | .ref _, h, _ => by cases h
theorem showable_Ds : ∀ vs : List Val, isDs vs = true → showIs vs = true → PyData.showableAll (toDs vs) = true
  | [], _, _ => rfl
  | v :: vs, h, h' => by
    obtain ⟨a, b⟩ := and2 (show (isD v && isDs vs) = true from h)
    obtain ⟨a', b'⟩ := and2 (show (showI v && showIs vs) = true from h')
    show ((toD v).showable && PyData.showableAll (toDs vs)) = true
    rw [showable_D v a a', showable_Ds vs b b']
    rfl
end
mutual
theorem noDict_D : ∀ v : Val, (toD v).hasDict = false
  | .non => rfl
  | .bl _ => rfl
  | .int _ => rfl
  | .str _ => rfl
  | .tup vs => noDict_Ds vs
  | .lst vs => noDict_Ds vs
  | .scr _ => rfl
  | .dct _ _ => rfl
  | .inst _ _ _ => rfl
  | .exn _ _ => rfl
  | .ref _ => rfl
theorem noDict_Ds : ∀ vs : List Val, PyData.hasDictAll (toDs vs) = false
  | [] => rfl
  | v :: vs => by
    show ((toD v).hasDict || PyData.hasDictAll (toDs vs)) = false
    rw [noDict_D v, noDict_Ds vs]
    rfl
end
theorem int_len {i : Int} (h : i.natAbs < 2 ^ 1900) : ((toString i : String) : Str).length ≤ 1999 := by
  have l := PySem.Flt.log2_lt_of (k := 1900) (by decide) h
  have e : ((toString i : String) : Str).length = (toString i).toList.length := by
    show (cpsOfBytes 0 0 (toString i).toByteArray.data.toList).toArray.size = _
    rw [cpsOfBytes_string, List.size_toArray, List.length_map]
  have hl : ∀ n : Nat, n < 2 ^ 1900 → (Nat.repr n).length ≤ 1900 := fun n h => nat_repr_length_le (by decide) h
  rw [e, String.length_toList]
  cases i with
  | ofNat n =>
    have := hl n h
    show (Nat.repr n).length ≤ 1999
    omega
  | negSucc n =>
    have := hl (n + 1) h
    show ("-" ++ Nat.repr (n + 1)).length ≤ 1999
    rw [String.length_append]
    show 1 + _ ≤ 1999
    omega
mutual
theorem wt_D : ∀ v : Val, strsOk v = true → showI v = true → (toD v).shown.length ≤ wt v
  | .non, _, _ => by decide
  | .bl b, _, _ => by cases b <;> decide
  | .int i, _, h => Nat.le_trans (int_len (of_decide_eq_true h)) (show 1999 ≤ 2000 by decide)
  | .str x, h, _ => by
    have hx : ∀ c ∈ x.cps.toList, c < 16 ^ 8 := fun c hc => by
      have h1 := Array.all_eq_true_iff_forall_mem.mp (show x.cps.all (fun c => decide (c < 1114112)) = true from h) c (Array.mem_toList_iff.mp hc)
      exact Nat.lt_of_lt_of_le (of_decide_eq_true h1) (by decide)
    exact Nat.le_trans (StrLaws.reprText_len x hx) (by show 10 * x.length + 2 ≤ 10 * x.length + 4; omega)
  | .tup vs, h, h' => by
    have h1 := wt_Ds vs h h'
    have h2 := tupleText_len_le (PyData.shownAll (toDs vs))
    show (tupleText (PyData.shownAll (toDs vs))).length ≤ wts vs + 4
    omega
  | .lst vs, h, h' => by
    have h1 := wt_Ds vs h h'
    have h2 := listText_len_le (PyData.shownAll (toDs vs))
    show (listText (PyData.shownAll (toDs vs))).length ≤ wts vs + 4
    omega
  | .scr _, _, _ => (show PyData.none.shown.length ≤ 2000 by decide)
  | .dct _ _, _, _ => (show PyData.none.shown.length ≤ 2000 by decide)
  | .inst _ _ _, _, _ => (show PyData.none.shown.length ≤ 2000 by decide)
  | .exn _ _, _, _ => (show PyData.none.shown.length ≤ 2000 by decide)
  | .ref _, _, _ => (show PyData.none.shown.length ≤ 2000 by decide)
theorem wt_Ds : ∀ vs : List Val, strsOks vs = true → showIs vs = true → ((PyData.shownAll (toDs vs)).map (·.length)).sum + 2 * (PyData.shownAll (toDs vs)).length ≤ wts vs
  | [], _, _ => Nat.le_refl _
  | v :: vs, h, h' => by
    obtain ⟨a, b⟩ := and2 (show (strsOk v && strsOks vs) = true from h)
    obtain ⟨a', b'⟩ := and2 (show (showI v && showIs vs) = true from h')
    have h1 := wt_D v a a'
    have h2 := wt_Ds vs b b'
    show (((toD v).shown :: PyData.shownAll (toDs vs)).map (·.length)).sum + 2 * ((toD v).shown :: PyData.shownAll (toDs vs)).length ≤ wt v + 2 + wts vs
    simp only [List.map_cons, List.sum_cons, List.length_cons]
    omega
end
/-! ### calls of built-in functions -/
/-- which value a built-in stands for -/
def biV : Bi → Value
  | .len => .builtin "len" | .int_ => .type "int" | .abs => .builtin "abs" | .str_ => .type "str" | .repr => .builtin "repr" | .tuple_ => .type "tuple" | .sum => .builtin "sum"
  | .all_ => .builtin "all" | .any_ => .builtin "any" | .max_ => .builtin "max" | .min_ => .builtin "min"
theorem vs1 {v : Val} {xs : List V} (q : RVs W F μ H [v] xs) : ∃ x, xs = [x] ∧ RV W F μ H v x := by
  obtain ⟨x, r, e, h1, h2⟩ := q
  have e2 : r = [] := h2
  subst e2
  exact ⟨x, e, h1⟩
theorem vs2 {v w : Val} {xs : List V} (q : RVs W F μ H [v, w] xs) : ∃ x y, xs = [x, y] ∧ RV W F μ H v x ∧ RV W F μ H w y := by
  obtain ⟨x, r, e, h1, h2⟩ := q
  obtain ⟨y, r2, e2, h3, h4⟩ := h2
  have e3 : r2 = [] := h4
  subst e3 e2
  exact ⟨x, y, e, h1, h3⟩
theorem maxL_spec : ∀ (l : List Int) (m : Int), maxL m l ∈ m :: l ∧ ∀ y ∈ m :: l, y ≤ maxL m l
  | [], m => ⟨List.mem_singleton.mpr rfl, fun y hy => by rw [List.mem_singleton.mp hy]; exact Int.le_refl _⟩
  | x :: r, m => by
    obtain ⟨h1, h2⟩ := maxL_spec r (if x > m then x else m)
    show maxL (if x > m then x else m) r ∈ _ ∧ ∀ y ∈ _, y ≤ maxL (if x > m then x else m) r
    have hm := h2 _ List.mem_cons_self
    refine ⟨?_, fun y hy => ?_⟩
    · rcases List.mem_cons.mp h1 with e | e
      · rw [e]
        split
        · exact List.mem_cons_of_mem _ List.mem_cons_self
        · exact List.mem_cons_self
      · exact List.mem_cons_of_mem _ (List.mem_cons_of_mem _ e)
    · have ha : m ≤ if x > m then x else m := by split <;> omega
      have hb : x ≤ if x > m then x else m := by split <;> omega
      rcases List.mem_cons.mp hy with e | e
      · rw [e]
        exact Int.le_trans ha hm
      · rcases List.mem_cons.mp e with e | e
        · rw [e]
          exact Int.le_trans hb hm
        · exact h2 y (List.mem_cons_of_mem _ e)
theorem minL_spec : ∀ (l : List Int) (m : Int), minL m l ∈ m :: l ∧ ∀ y ∈ m :: l, minL m l ≤ y
  | [], m => ⟨List.mem_singleton.mpr rfl, fun y hy => by rw [List.mem_singleton.mp hy]; exact Int.le_refl _⟩
  | x :: r, m => by
    obtain ⟨h1, h2⟩ := minL_spec r (if x < m then x else m)
    show minL (if x < m then x else m) r ∈ _ ∧ ∀ y ∈ _, minL (if x < m then x else m) r ≤ y
    have hm := h2 _ List.mem_cons_self
    refine ⟨?_, fun y hy => ?_⟩
    · rcases List.mem_cons.mp h1 with e | e
      · rw [e]
        split
        · exact List.mem_cons_of_mem _ List.mem_cons_self
        · exact List.mem_cons_self
      · exact List.mem_cons_of_mem _ (List.mem_cons_of_mem _ e)
    · have ha : (if x < m then x else m) ≤ m := by split <;> omega
      have hb : (if x < m then x else m) ≤ x := by split <;> omega
      rcases List.mem_cons.mp hy with e | e
      · rw [e]
        exact Int.le_trans hm ha
      · rcases List.mem_cons.mp e with e | e
        · rw [e]
          exact Int.le_trans hm hb
        · exact h2 y (List.mem_cons_of_mem _ e)
theorem repr_1 (hK : X.K = W.K) (hg : X.A.guards = some []) (hu : X.A.units + 64 < cLine) : CallR X (.builtin "repr") (rGs W (bicall .repr)) := by
  intro pins s σ H xs us Q I rx hq
  obtain ⟨F, μ, h, vs, u, r, q, e, k⟩ := hq
  match vs, q, e with
  | [], _, e => cases e
  | [_, _], _, e => cases e
  | _ :: _ :: _ :: _, _, e => cases e
  | [v], q, e =>
  obtain ⟨x, rfl, hv⟩ := vs1 q
  obtain ⟨t, e1, e2⟩ := Option.map_eq_some_iff.mp (show (reprOf v).map Val.str = some u from e)
  subst e2
  unfold reprOf at e1
  by_cases hc : (eqOk v && (strsOk v && (showI v && decide (wt v ≤ 10000000)))) = true
  · rw [if_pos hc] at e1
    cases e1
    obtain ⟨c1, c2⟩ := and2 hc
    obtain ⟨c2, c3⟩ := and2 c2
    obtain ⟨c3, c4⟩ := and2 c3
    obtain ⟨d1, d2⟩ := and2 (show (isD v && decide (dep v ≤ 60)) = true from c1)
    have d2' : dep v ≤ 60 := of_decide_eq_true d2
    have c4' : wt v ≤ 10000000 := of_decide_eq_true c4
    have hl : (toD v).shown.length ≤ sizeLine := Nat.le_trans (wt_D v c2 c3) (Nat.le_trans c4' (by rw [sizeLine_eq]; decide))
    have fin : Q (.str (toD v).shown) H := k F H _ r Stp.refl rfl
    obtain ⟨uv, rfl, rv⟩ := vals1 rx
    obtain ⟨as, rd⟩ := Dp.reads I (toD v) x uv (by rw [hK]; exact dp_D v x d1 hv) rv
    have isRef : ∀ a, uv = .ref a → wpAny (model X.prog X.w) X.A (call (.builtin "repr") [uv]) (EP X pins σ Q) X.xe s := fun a e => by
      subst e
      refine repr_of_reads' rd (showable_D v d1 c3) (fun z => by rw [noDict_D v] at z; cases z) hg ?_ (fun _ _ z => z) (fun h' w tk hk => ⟨.str _, H, I.kept hk, ⟨_, rfl⟩, fin⟩) hl
      have := dep_D v
      omega
    cases v with
    | non =>
      cases rd
      exact P.repr_of_none ⟨.str _, H, I.tok _, ⟨_, rfl⟩, fin⟩
    | bl b =>
      cases rd
      exact P.repr_of_bool ⟨.str _, H, I.tok _, ⟨_, rfl⟩, by cases b <;> exact fin⟩
    | int i =>
      cases rd
      have h' : i.natAbs < 2 ^ 1900 := of_decide_eq_true c3
      have l := PySem.Flt.log2_lt_of (k := 1900) (by decide) h'
      exact P.repr_of_int (by omega) ⟨.str _, H, I.tok _, ⟨_, rfl⟩, fin⟩
    | str z =>
      cases rd
      exact P.repr_of_str ⟨.str _, H, I.tok _, ⟨_, rfl⟩, fin⟩ hl
    | tup vs =>
      obtain ⟨a, _, rfl, _⟩ := hv
      exact isRef a rv
    | lst vs =>
      obtain ⟨a, _, rfl, _⟩ := hv
      exact isRef a rv
    | _ => cases d1
  · rw [if_neg hc] at e1
    cases e1
theorem bi_1 (hK : X.K = W.K) (hc : X.calm = true) (b : Bi) {pins : List (Addr × Obj)} {s : Shared} {σ : L2.St} {H : Hp} {x : V} {us : List Value} {Q : VK} (I : Inv X pins σ H s) (rx : Vals [x] us)
    (F : Addr → Prop) (μ : List Addr) (h : Hs) (v u : Val) (r : RSt W F μ H h) (hv : RV W F μ H v x) (e : bi1 b v = some u) (k : ∀ F' H' z, RSt W F' μ H' h → Stp F μ H F' μ H' → RV W F' μ H' u z → Q z H')
    (hb : b ≠ .repr) : wpAny (model X.prog X.w) X.A (call (biV b) us) (EP X pins σ Q) X.xe s := by
  have kk : ∀ {z : V}, RV W F μ H u z → Q z H := fun {z} hz => k F H z r Stp.refl hz
  cases b with
  | len =>
    cases v with
    | tup vs =>
      obtain ⟨a, ys, rfl, t, q1, _, _⟩ := seqT hv
      cases e
      exact call_len pins s σ H _ us Q I rx ⟨_, vs.length, rfl, .inr ⟨ys, by rw [hK]; exact t, RVs.length q1⟩, kk rfl⟩
    | lst vs =>
      obtain ⟨a, ys, rfl, t, q1, _, _⟩ := seqL hv
      cases e
      exact call_len pins s σ H _ us Q I rx ⟨_, vs.length, rfl, .inl ⟨ys, by rw [hK]; exact t, RVs.length q1⟩, kk rfl⟩
    | scr ns =>
      obtain ⟨a, rfl, t⟩ := seqS hv
      cases e
      exact call_len pins s σ H _ us Q I rx ⟨_, ns.length, rfl, .inl ⟨_, by rw [hK]; exact t, by rw [List.length_map]⟩, kk rfl⟩
    | str y =>
      have ex : x = .str y := hv
      subst ex
      have e' : (if y.length ≤ most then some (Val.int y.length) else none) = some u := e
      by_cases hl : y.length ≤ most
      · rw [if_pos hl] at e'
        cases e'
        exact call_len pins s σ H _ us Q I rx ⟨_, y.length, rfl, ⟨most_line hl, rfl⟩, kk rfl⟩
      · rw [if_neg hl] at e'
        cases e'
    | _ => cases e
  | int_ =>
    cases v with
    | int i =>
      have ex : x = .int i := hv
      subst ex
      cases e
      exact call_int1 pins s σ H _ us Q I rx (.inl ⟨i, rfl, kk rfl⟩)
    | bl i =>
      have ex : x = .bl i := hv
      subst ex
      cases e
      exact call_int1 pins s σ H _ us Q I rx (.inr ⟨i, rfl, kk rfl⟩)
    | _ => cases e
  | abs =>
    cases v with
    | int i =>
      have ex : x = .int i := hv
      subst ex
      cases e
      exact call_abs pins s σ H _ us Q I rx ⟨i, rfl, kk rfl⟩
    | _ => cases e
  | str_ =>
    cases v with
    | int i =>
      have ex : x = .int i := hv
      subst ex
      have e' : (if decide (i.natAbs < 2 ^ 1900) = true then some (Val.str (toString i)) else none) = some u := e
      by_cases hl : i.natAbs < 2 ^ 1900
      · rw [if_pos (decide_eq_true hl)] at e'
        cases e'
        have l := PySem.Flt.log2_lt_of (k := 1900) (by decide) hl
        exact call_str_int pins s σ H _ us Q I rx ⟨i, rfl, by omega, kk rfl⟩
      · rw [decide_eq_false hl] at e'
        cases e'
    | str y =>
      have ex : x = .str y := hv
      subst ex
      cases e
      exact SkE.call_str_str pins s σ H _ us Q I rx ⟨y, rfl, kk rfl⟩
    | _ => cases e
  | repr => exact absurd rfl hb
  | tuple_ =>
    cases v with
    | tup vs =>
      have hv' := hv
      obtain ⟨a, ys, rfl, t, q1, _, _⟩ := seqT hv
      cases e
      exact call_tuple_of pins s σ H _ us Q I rx ⟨a, ys, rfl, .inr ⟨by rw [hK]; exact t, kk hv'⟩⟩
    | lst vs =>
      obtain ⟨a, ys, rfl, t, q1, _, _⟩ := seqL hv
      cases e
      refine call_tuple_of pins s σ H _ us Q I rx ⟨a, ys, rfl, .inl ⟨by rw [hK]; exact t, fun p np => ?_⟩⟩
      obtain ⟨r1, s1, v1⟩ := newT r q1 np
      exact k _ _ _ r1 s1 v1
    | _ => cases e
  | sum =>
    cases v with
    | lst vs =>
      obtain ⟨a, ys, rfl, t, q1, _, _⟩ := seqL hv
      obtain ⟨ns, e1, e2⟩ := Option.map_eq_some_iff.mp (show (intsOf vs).map (fun ns => Val.int ns.sum) = some u from e)
      subst e2
      rw [RVs.ofInts e1 q1] at t
      exact cr_sum hc pins s σ H _ us Q I rx ⟨a, ns, rfl, by rw [hK]; exact t, kk rfl⟩
    | _ => cases e
  | all_ =>
    cases v with
    | lst vs =>
      obtain ⟨a, ys, rfl, t, q1, _, _⟩ := seqL hv
      obtain ⟨ns, e1, e2⟩ := Option.map_eq_some_iff.mp (show (boolsOf vs).map (fun ns => Val.bl (ns.all id)) = some u from e)
      subst e2
      rw [RVs.ofBools e1 q1] at t
      exact cr_all hc pins s σ H _ us Q I rx ⟨a, ns, rfl, by rw [hK]; exact t, kk rfl⟩
    | _ => cases e
  | any_ =>
    cases v with
    | lst vs =>
      obtain ⟨a, ys, rfl, t, q1, _, _⟩ := seqL hv
      obtain ⟨ns, e1, e2⟩ := Option.map_eq_some_iff.mp (show (boolsOf vs).map (fun ns => Val.bl (ns.any id)) = some u from e)
      subst e2
      rw [RVs.ofBools e1 q1] at t
      exact cr_any hc pins s σ H _ us Q I rx ⟨a, ns, rfl, by rw [hK]; exact t, kk rfl⟩
    | _ => cases e
  | max_ =>
    cases v with
    | lst vs =>
      obtain ⟨a, ys, rfl, t, q1, _, _⟩ := seqL hv
      have e' : ((intsOf vs).bind fun ns => match ns with | [] => none | x :: r => some (Val.int (maxL x r))) = some u := e
      cases e1 : intsOf vs with
      | none =>
        rw [e1] at e'
        cases e'
      | some ns =>
        rw [e1] at e'
        cases ns with
        | nil => cases e'
        | cons z zs =>
          have e2 : Val.int (maxL z zs) = u := Option.some.inj e'
          subst e2
          rw [RVs.ofInts e1 q1] at t
          obtain ⟨m1, m2⟩ := maxL_spec zs z
          refine cr_max hc pins s σ H _ us Q I rx ⟨a, z :: zs, rfl, by rw [hK]; exact t, by simp, fun m h1 h2 => ?_⟩
          have em : m = maxL z zs := Int.le_antisymm (m2 m h1) (h2 _ m1)
          rw [em]
          exact kk rfl
    | _ => cases e
  | min_ =>
    cases v with
    | lst vs =>
      obtain ⟨a, ys, rfl, t, q1, _, _⟩ := seqL hv
      have e' : ((intsOf vs).bind fun ns => match ns with | [] => none | x :: r => some (Val.int (minL x r))) = some u := e
      cases e1 : intsOf vs with
      | none =>
        rw [e1] at e'
        cases e'
      | some ns =>
        rw [e1] at e'
        cases ns with
        | nil => cases e'
        | cons z zs =>
          have e2 : Val.int (minL z zs) = u := Option.some.inj e'
          subst e2
          rw [RVs.ofInts e1 q1] at t
          obtain ⟨m1, m2⟩ := minL_spec zs z
          refine cr_min hc pins s σ H _ us Q I rx ⟨a, z :: zs, rfl, by rw [hK]; exact t, by simp, fun m h1 h2 => ?_⟩
          have em : m = minL z zs := Int.le_antisymm (h2 _ m1) (m2 m h1)
          rw [em]
          exact kk rfl
    | _ => cases e
theorem bi_G (hK : X.K = W.K) (hc : X.calm = true) (hg : X.A.guards = some []) (hu : X.A.units + 64 < cLine) (b : Bi) : CallR X (biV b) (rGs W (bicall b)) := by
  by_cases hb : b = .repr
  · subst hb
    exact repr_1 hK hg hu
  intro pins s σ H xs us Q I rx hq
  obtain ⟨F, μ, h, vs, u, r, q, e, k⟩ := hq
  match vs, q, e with
  | [], _, e => cases e
  | [v], q, e =>
    obtain ⟨x, rfl, hv⟩ := vs1 q
    exact bi_1 hK hc b I rx F μ h v u r hv e k hb
  | [v, w], q, e =>
    obtain ⟨x, y, rfl, hv, hw⟩ := vs2 q
    cases b with
    | max_ =>
      cases v with
      | int i =>
        cases w with
        | int j =>
          have ex : x = .int i := hv
          have ey : y = .int j := hw
          subst ex ey
          cases e
          exact call_max2 hc pins s σ H _ us Q I rx ⟨i, j, rfl, k F H _ r Stp.refl rfl⟩
        | _ => cases e
      | _ => cases w <;> cases e
    | min_ =>
      cases v with
      | int i =>
        cases w with
        | int j =>
          have ex : x = .int i := hv
          have ey : y = .int j := hw
          subst ex ey
          cases e
          exact call_min2 hc pins s σ H _ us Q I rx ⟨i, j, rfl, k F H _ r Stp.refl rfl⟩
        | _ => cases e
      | _ => cases w <;> cases e
    | _ => cases e
  | _ :: _ :: _ :: _, _, e => cases e
/-! ### isinstance with a built-in class -/
def tyName : Ty → String
  | .int => "int" | .bool => "bool" | .str => "str" | .tuple => "tuple" | .list => "list" | .own _ => "object"
theorem isi_G {x : V} {v : Val} {t : Ty} {b : Bool} (hv : RV W F μ H v x) (e : isiOf v t = some b) : ∃ T, TyX W.K H x (.type T) ∧ PySem.W.kitOne W.K (.type T) (.type (tyName t)) = some b := by
  cases v with
  | non =>
    have ex : x = .non := hv
    subst ex
    refine ⟨"NoneType", .base .non, ?_⟩
    cases t <;> first | (cases e; exact kit_ty (by decide +kernel)) | cases e
  | bl c =>
    have ex : x = .bl c := hv
    subst ex
    refine ⟨"bool", .base (.bl c), ?_⟩
    cases t <;> first | (cases e; exact kit_ty (by decide +kernel)) | cases e
  | int c =>
    have ex : x = .int c := hv
    subst ex
    refine ⟨"int", .base (.int c), ?_⟩
    cases t <;> first | (cases e; exact kit_ty (by decide +kernel)) | cases e
  | str c =>
    have ex : x = .str c := hv
    subst ex
    refine ⟨"str", .base (.str c), ?_⟩
    cases t <;> first | (cases e; exact kit_ty (by decide +kernel)) | cases e
  | tup vs =>
    obtain ⟨a, ys, rfl, _, _, _, g⟩ := seqT hv
    refine ⟨"tuple", .base (.tup g), ?_⟩
    cases t <;> first | (cases e; exact kit_ty (by decide +kernel)) | cases e
  | lst vs =>
    obtain ⟨a, ys, rfl, _, _, _, g⟩ := seqL hv
    refine ⟨"list", .base (.lst g), ?_⟩
    cases t <;> first | (cases e; exact kit_ty (by decide +kernel)) | cases e
  | _ => cases t <;> cases e
end
end Pyi
set_option Elab.async false
set_option linter.all false
set_option maxRecDepth 100000
set_option maxHeartbeats 1000000
/-! The promise of a def where it is known besides that nothing is being shown around it (repr wants it). -/
namespace Pyi
open PySem PySem.Spec PyProof.Rows L2

structure Rm (n : Nat) (A : Around) : Prop where
  rm : Room n A
  gd : A.guards = some []
theorem Rm.mono {m n : Nat} {A : Around} (r : Rm n A) (h : m ≤ n) : Rm m A := ⟨r.rm.mono h, r.gd⟩
theorem Rm.deeper {n : Nat} {A : Around} (r : Rm (n + 1) A) (env : PySem.Env) : Rm n (A.deeper env) := ⟨r.rm.deeper env, r.gd⟩

structure Fok (P : Program) (w : World) (K : PySem.W.Frag) (mg : Str → Option Value) (base : Heap) (n : Nat) (f : Addr) (fd : FuncData) (ps : List Str) (sp : Sp) : Prop where
  len : ∀ vs H Q E, sp vs H Q E → vs.length = ps.length
  run : ∀ A out s H args us vs Q E, Rm n A → Env0 P w K mg base A out s H → BindsTo s fd args (ps.zip us) → Vals vs us → sp vs H Q E →
    codeAny (model P w) A (.call (.ref f) args) (CR (L2.CX P w) out P w H s Q E) s
section
variable {P : Program} {w : World} {K : PySem.W.Frag} {mg : Str → Option Value} {base : Heap} {n : Nat} {f : Addr} {fd : FuncData} {ps : List Str} {sp : Sp}
theorem Fok.mono {m : Nat} (F : Fok P w K mg base m f fd ps sp) (h : m ≤ n) : Fok P w K mg base n f fd ps sp :=
  ⟨F.len, fun A out s H args us vs Q E r => F.run A out s H args us vs Q E (r.mono h)⟩
/-- a def of the text by its body -/
theorem Fok.of {name qual : Str} {params : Arguments} {body : List Stmt} {scope : Scope} {dvs : List V} {kws : List (Str × V)} {N : List Str} (D : FunD K name qual params body scope dvs kws f fd) (S : FnScope N ps scope)
    (len : ∀ vs H Q E, sp vs H Q E → vs.length = ps.length)
    (hb : ∀ (cd : Value) (A : Around) (out : List PySem.Env) (s : Shared) (H : Hp) (vs : List V) (Q : VK) (E : XK), Rm n (A.deeper (envOfC qual scope s.heap.objs.size f cd)) → sp vs H Q E →
      ∃ t, PSs (cxOf (L2.CX P w) P w K mg base N qual scope f cd A out s H E) body t ∧ t { nx := fun _ H' => Q .non H', rt := Q } (start N vs) H) : Fok P w K mg base (n + 1) f fd ps sp := by
  obtain ⟨oc, od, dV, kV, doc, pm, an, cd, ct, osl, efd, lk, hcd, _, _⟩ := D.ex
  subst efd
  constructor
  · exact len
  intro A out s H args us vs Q E hr e0 bd r q
  have hl := len _ _ _ _ q
  have old : ∀ b o, base.get? b = some o → s.heap.get? b = some o := fun b o e => (e0.bs b o e).1
  have KX : K.In s.heap := e0.mod.kin.keeps old
  have lim := e0.mod.nolimit.keeps old
  have kinds : ∀ y ∈ ps.zip us, scope.names.lookup y.1 = some .local ∨
      (scope.names.lookup y.1 = some .cell ∧ ((cellsFrom (s.heap.objs.size + 1) scope.names []).lookup y.1).isSome = true) := by
    intro y hy
    obtain ⟨x, v⟩ := y
    cases S.par x (List.of_mem_zip hy).1 with
    | inl q => exact .inl q
    | inr q => exact .inr ⟨q, PySem.W.cellsFrom_some _ _ _ (.inl q)⟩
  apply codeAny_call_function hr.rm.depth (KX _ _ lk) rfl S.co S.gen rfl (PySem.W.codeRec_of KX hcd)
  apply bd
  apply wpAny_newFunctionEnv_cells S.kind kinds
  intro env he s1 x
  subst he
  refine ⟨lim.keeps x.toInCall.keep, ?_⟩
  apply codeAny_func
  obtain ⟨t, ht, hq⟩ := hb cd A out s H vs Q E (hr.deeper _) q
  have I := inv_start (CX := L2.CX P w) (E := E) S hr.rm.hd e0 hl r x
  refine wpAny_mono (ht.run [] s1 (start N vs) H _ I hq) ?_ (fun _ _ z => z)
  intro fl s' hs
  have fin : ∀ {σ' : L2.St} {H' : Hp} {v : V} {u : Value}, Inv (cxOf (L2.CX P w) P w K mg base N qual scope f cd A out s H E) [] σ' H' s' →
      RelV v u → Q v H' → CE out P w H s Q u s' := by
    intro σ' H' v u J rv q
    exact ⟨v, H', J.os, J.bare, J.base, J.hok, rv, q⟩
  cases fl with
  | ret u =>
    obtain ⟨v, σ', H', J, rv, q⟩ := hs
    exact fin J rv q
  | next =>
    obtain ⟨σ', H', J, q⟩ := hs
    exact fin (v := .non) (u := .none) J rfl q
  | brk =>
    obtain ⟨_, _, _, q⟩ := hs
    cases q
  | cont =>
    obtain ⟨_, _, _, q⟩ := hs
    cases q
end
section
variable {X : Cx} {n : Nat} {f : Addr} {fd : FuncData} {ps : List Str} {sp : Sp} {dvs : List V} {ds : List Value} {E : XK} {Z : WX} {x : Str} {p pos : Pos} {e : Expr} {es : List Expr} {t : TA}
/-- the callee runs -/
theorem fok_run (F : Fok X.prog X.w X.K X.mg X.base n f fd ps sp) (hr : Rm n X.A) (hb : Binds X.K fd ps ds) (hd : Vals dvs ds) (tk : Takes X Z)
    {pins : List (Addr × Obj)} {σ : L2.St} {H : Hp} {s : Shared} {Q : VK} {us : List Value} {vs : List V} (I : Inv X pins σ H s) (r : Vals vs us) (q : sp (vs ++ dvs) H Q (fun c d H => Z c d σ H)) :
    wpAny (model X.prog X.w) X.A (call (.ref f) us) (EP X pins σ Q) X.xe s := by
  have r2 := Vals.append r hd
  have hl : (us ++ ds).length = ps.length := r2.length.symm.trans (F.len _ _ _ _ q)
  apply wpAny_call
  refine codeAny_mono (F.run X.A X.stack s H ⟨us, []⟩ (us ++ ds) (vs ++ dvs) Q _ hr I.env0 (hb s us I.kIn hl) r2 q) ?_
  intro res s' h
  match res, h with
  | .error e, h =>
    exact tk e s' (XE.of_call (W := Z) I (fun c d H' z => z) h)
  | .ok (.ret u), h => exact I.after h
/-- f(e, ..) -/
theorem fok_call (F : Fok X.prog X.w X.K X.mg X.base n f fd ps sp) (hr : Rm n X.A) (hg : Gl X x) (hm : X.mg x = some (.ref f)) (hk : PySem.W.keepIn X.K (.ref f) = true) (hb : Binds X.K fd ps ds) (hd : Vals dvs ds) (tk : Takes X Z)
    (ha : PA X (e :: es) t) (hdb : (x == ("__debug__" : Str)) = false) (he : starEach (e :: es) X.env = (false, eval e X.env) :: starEach es X.env) (hpl : (backTo pos (starEach es X.env)).any (·.1) = false) :
    PE X (.Call (.Name x p) (e :: es) [] pos) (fun σ H Q => t σ H fun vs H1 => sp (vs ++ dvs) H1 Q (fun c d H => Z c d σ H)) := by
  constructor
  intro pins s σ H Q I h
  apply wpAny_Call_Name_kw
  refine ld_glob I hg hm ?_ hdb
  refine PySem.W.callWith_K (h₀ := X.base) I.ok.mod.kin hk (thn (ha.run pos pins s σ H _ I h) ?_) he hpl
  intro us s1 ⟨vs, H1, I1, r, q⟩
  exact ⟨I1.kIn, fok_run F hr hb hd tk I1 r q⟩
theorem fok_call0 (F : Fok X.prog X.w X.K X.mg X.base n f fd ps sp) (hr : Rm n X.A) (hg : Gl X x) (hm : X.mg x = some (.ref f)) (hk : PySem.W.keepIn X.K (.ref f) = true) (hb : Binds X.K fd ps ds) (hd : Vals dvs ds) (tk : Takes X Z)
    (hdb : (x == ("__debug__" : Str)) = false) : PE X (.Call (.Name x p) [] [] pos) (fun σ H Q => sp dvs H Q (fun c d H => Z c d σ H)) := by
  constructor
  intro pins s σ H Q I h
  apply wpAny_Call_Name_kw
  refine ld_glob I hg hm ?_ hdb
  exact PySem.W.callWith_K0 I.kIn hk (fok_run (us := []) F hr hb hd tk I .nil h)
end
/-! ### the law's end -/
theorem rm_caller {n : Nat} (h : Room n callerA) : Rm n callerA := ⟨h, rfl⟩
end Pyi
set_option Elab.async false
set_option linter.all false
set_option maxRecDepth 100000
set_option maxHeartbeats 1000000
/-! Targets, walks, list comprehensions. -/
namespace Pyi
open PySem PySem.Spec PyProof.Rows L2

section
variable {W : Wd} {X : Cx} {Z : WX} {F F' : Addr → Prop} {μ μ' : List Addr} {H H' : Hp} {h h' : Hs} {env : Env} {σ : L2.St}
/-! ### an object that nobody holds changes -/
theorem Mon.out {p : Addr} {o : HO} (nf : ¬ F p) : Mon F μ H F μ (upd H p o) := ⟨fun _ z => z, fun _ _ z => z, fun a f => upd_ne (show a ≠ p from fun z => nf (z ▸ f))⟩
theorem Mon.grow {p : Addr} : Mon F μ H (fun a => F a ∨ a = p) μ H := ⟨fun _ z => .inl z, fun _ _ z => z, fun _ _ => rfl⟩
theorem Mon.more {r : List Addr} : Mon F μ H F (μ ++ r) H := ⟨fun _ z => z, fun n x z => by
  rw [List.getElem?_append_left (List.getElem?_eq_some_iff.mp z).1]
  exact z, fun _ _ => rfl⟩
theorem RV.out {p : Addr} {o : HO} (nf : ¬ F p) (v : Val) (x : V) (q : RV W F μ H v x) : RV W F μ (upd H p o) v x := RV.mon (Mon.out nf) v x q
theorem RVs.out {p : Addr} {o : HO} (nf : ¬ F p) (v : List Val) (x : List V) (q : RVs W F μ H v x) : RVs W F μ (upd H p o) v x := RVs.mon (Mon.out nf) v x q
theorem RV.grow {p : Addr} (v : Val) (x : V) (q : RV W F μ H v x) : RV W (fun a => F a ∨ a = p) μ H v x := RV.mon Mon.grow v x q
theorem RVs.grow {p : Addr} (v : List Val) (x : List V) (q : RVs W F μ H v x) : RVs W (fun a => F a ∨ a = p) μ H v x := RVs.mon Mon.grow v x q
theorem RObj.mon (s : Mon F μ H F' μ' H') {o : MObj} {a : Addr} (e : H' a = H a) (r : RObj W F μ H o a) : RObj W F' μ' H' o a := by
  cases o with
  | lst vs =>
    obtain ⟨xs, g, q⟩ := r
    exact ⟨xs, e.trans g, RVs.mon s vs xs q⟩
  | ins c ns vs =>
    obtain ⟨dx, fs, g, n, q⟩ := r
    exact ⟨dx, fs, e.trans g, n, RVs.mon s vs _ q⟩
theorem RSt.out {p : Addr} {o : HO} (r : RSt W F μ H h) (nf : ¬ F p) (nm : p ∉ μ) : RSt W F μ (upd H p o) h where
  len := r.len
  nd := r.nd
  ob := fun n ob a h1 h2 => by
    have hm : a ∈ μ := List.mem_of_getElem? h2
    have ne : a ≠ p := fun z => nm (z ▸ hm)
    have q := r.ob n ob a h1 h2
    cases ob with
    | lst vs =>
      obtain ⟨xs, g, q⟩ := q
      exact ⟨xs, (upd_ne ne).trans g, RVs.out nf vs xs q⟩
    | ins c ns vs =>
      obtain ⟨dx, fs, g, n, q⟩ := q
      exact ⟨dx, fs, (upd_ne ne).trans g, n, RVs.out nf vs _ q⟩
  nf := r.nf
  lm := fun a hm => by
    rw [upd_ne (show a ≠ p from fun z => nm (z ▸ hm))]
    exact r.lm a hm
  lf := fun a f => by
    rw [upd_ne (show a ≠ p from fun z => nf (z ▸ f))]
    exact r.lf a f
theorem RSlot.out {p : Addr} {o : HO} {s : Slot} {x : V} (r : RSlot W F μ H s x) (nf : ¬ F p) (np : isOwn s = true → x ≠ .ref p) : RSlot W F μ (upd H p o) s x := by
  cases s with
  | v v => exact RV.out nf v x r
  | own vs =>
    obtain ⟨a, xs, e, g, q, f, m⟩ := r
    exact ⟨a, xs, e, (upd_ne (show a ≠ p from fun z => np rfl (by rw [e, z]))).trans g, RVs.out nf vs xs q, f, m⟩
  | ownD ks vs =>
    obtain ⟨a, kvs, e, g, f, m, k, q⟩ := r
    exact ⟨a, kvs, e, (upd_ne (show a ≠ p from fun z => np rfl (by rw [e, z]))).trans g, f, m, k, RVs.out nf vs _ q⟩
  | ownI ns vs =>
    obtain ⟨a, dx, fs, e, g, n, q, f, m⟩ := r
    exact ⟨a, dx, fs, e, (upd_ne (show a ≠ p from fun z => np rfl (by rw [e, z]))).trans g, n, RVs.out nf vs _ q, f, m⟩
theorem REnv.out {p : Addr} {o : HO} (r : REnv W F μ H env σ) (nf : ¬ F p) (no : ¬ Own env σ p) : REnv W F μ (upd H p o) env σ where
  len := r.len
  sl := fun i s e => by
    obtain ⟨x, e1, q⟩ := r.sl i s e
    refine ⟨x, e1, q.out nf fun ho z => no ⟨i, s, e, ho, ?_⟩⟩
    rw [e1, z]
  sep := r.sep
theorem REnv.own_live (r : REnv W F μ H env σ) {a : Addr} (o : Own env σ a) : H a ≠ none ∧ ¬ F a ∧ a ∉ μ := by
  obtain ⟨i, s, e, ho, es⟩ := o
  obtain ⟨x, e1, q⟩ := r.sl i s e
  obtain ⟨b, ex, l, f, m⟩ := q.own_at ho
  rw [es] at e1
  cases e1
  cases ex
  exact ⟨l, f, m⟩
/-- a later state whose fresh object is written again -/
theorem Stp.again {p : Addr} {o : HO} (r : RSt W F μ H h) (s : Stp F μ H F' μ' H') (n : H p = none) (nf : ¬ F' p) (l : H' p ≠ none) : Stp F μ H F' μ' (upd H' p o) where
  f := s.f
  m := s.m
  fz := fun a f => (upd_ne (show a ≠ p from fun z => r.lf a f (z ▸ n))).trans (s.fz a f)
  keep := fun b u e m => (upd_ne (ne_of_none e n)).trans (s.keep b u e m)
  fn := s.fn
  mn := s.mn
  lv := fun a e => by
    by_cases z : a = p
    · rw [z, upd_same]; exact fun q => by cases q
    · rw [upd_ne z]; exact s.lv a e
/-- a fresh object is frozen -/
theorem Stp.freeze {p : Addr} (s : Stp F μ H F' μ' H') (n : H p = none) : Stp F μ H (fun a => F' a ∨ a = p) μ' H' where
  f := fun a f => .inl (s.f a f)
  m := s.m
  fz := s.fz
  keep := s.keep
  fn := fun a f => by
    rcases f with f | f
    · exact s.fn a f
    · rw [f]; exact .inr (.inl n)
  mn := s.mn
  lv := s.lv
theorem RSt.grow {p : Addr} (r : RSt W F μ H h) (l : H p ≠ none) (nm : p ∉ μ) : RSt W (fun a => F a ∨ a = p) μ H h where
  len := r.len
  nd := r.nd
  ob := fun n ob a h1 h2 => by
    have q := r.ob n ob a h1 h2
    cases ob with
    | lst vs =>
      obtain ⟨xs, g, q⟩ := q
      exact ⟨xs, g, RVs.grow vs xs q⟩
    | ins c ns vs =>
      obtain ⟨dx, fs, g, n, q⟩ := q
      exact ⟨dx, fs, g, n, RVs.grow vs _ q⟩
  nf := fun a hm f => by
    rcases f with f | f
    · exact r.nf a hm f
    · exact nm (f ▸ hm)
  lm := r.lm
  lf := fun a f => by
    rcases f with f | f
    · exact r.lf a f
    · rw [f]; exact l
/-- a list just made becomes one that nobody changes -/
theorem rd_freeze {m : Ev (List Val)} {σ : L2.St} {H : Hp} {Q : VK} (q : RD W Z (fun env h => (m env h).bind fun vs h => .ok (.lst vs) h) σ H Q) : RDf W Z m σ H Q := by
  obtain ⟨F, μ, env, h, r, e, a⟩ := q
  refine rd_step r e a fun vs h' F' μ' H' x r1 e1 s1 v1 a1 => ?_
  obtain ⟨p, xs, rfl, n, nf, nm, g, rv⟩ := v1
  exact a1 (fun a => F' a ∨ a = p) μ' H' (.ref p) (r1.grow (by rw [g]; exact fun z => by cases z) nm) (s1.freeze n) ⟨p, xs, rfl, .inr rfl, g, RVs.grow vs xs rv⟩
/-- .. or one that changes -/
theorem rd_mk {m : Ev (List Val)} {σ : L2.St} {H : Hp} {Q : VK} (q : RD W Z (fun env h => (m env h).bind fun vs h => .ok (.ref h.length) (h ++ [.lst vs])) σ H Q) : RDf W Z m σ H Q := by
  obtain ⟨F, μ, env, h, r, e, a⟩ := q
  refine rd_step r e a fun vs h' F' μ' H' x r1 e1 s1 v1 a1 => ?_
  obtain ⟨p, xs, rfl, n, nf, nm, g, rv⟩ := v1
  have sg : Stp F μ H F' (μ' ++ [p]) H' := {
    f := s1.f
    m := by
      obtain ⟨t, et⟩ := s1.m
      exact ⟨t ++ [p], by rw [et, List.append_assoc]⟩
    fz := s1.fz
    keep := s1.keep
    fn := fun a f => by
      rcases s1.fn a f with z | z | ⟨⟨ys, z⟩, y⟩
      · exact .inl z
      · exact .inr (.inl z)
      · refine .inr (.inr ⟨⟨ys, z⟩, fun hm => ?_⟩)
        rcases List.mem_append.mp hm with t | t
        · exact y t
        · rw [List.mem_singleton.mp t, n] at z
          cases z
    mn := fun b hb => by
      rcases List.mem_append.mp hb with z | z
      · exact s1.mn b z
      · rw [List.mem_singleton.mp z]; exact .inr n
    lv := s1.lv }
  have rg : RSt W F' (μ' ++ [p]) H' (h' ++ [.lst vs]) := {
    len := by rw [List.length_append, List.length_append, r1.len]; rfl
    nd := List.nodup_append.mpr ⟨r1.nd, by simp, fun a ha b hb => by
      rw [List.mem_singleton.mp hb]
      exact fun z => nm (z ▸ ha)⟩
    ob := fun k o a h1 h2 => by
      by_cases hk : k < h'.length
      · rw [List.getElem?_append_left hk] at h1
        rw [List.getElem?_append_left (by rw [r1.len]; exact hk)] at h2
        exact RObj.mon Mon.more rfl (r1.ob k o a h1 h2)
      · rw [List.getElem?_append_right (by omega)] at h1
        rw [List.getElem?_append_right (by rw [r1.len]; omega), r1.len] at h2
        cases hd : k - h'.length with
        | zero =>
          rw [hd] at h1 h2
          cases h1
          cases h2
          exact ⟨xs, g, RVs.mon Mon.more vs xs rv⟩
        | succ m =>
          rw [hd] at h1
          cases h1
    nf := fun a ha => by
      rcases List.mem_append.mp ha with z | z
      · exact r1.nf a z
      · rw [List.mem_singleton.mp z]; exact nf
    lm := fun a ha => by
      rcases List.mem_append.mp ha with z | z
      · exact r1.lm a z
      · rw [List.mem_singleton.mp z, g]; exact fun q => by cases q
    lf := r1.lf }
  refine a1 F' (μ' ++ [p]) H' (.ref p) rg sg ⟨p, ?_, rfl⟩
  rw [List.getElem?_append_right (by rw [r1.len]; exact Nat.le_refl _), r1.len, Nat.sub_self]
  rfl

/-! ### targets -/
/-- what a target is given -/
def gG (W : Wd) (tg : Tg) : TG := fun x σ H Q => ∃ F μ env h w env', RSt W F μ H h ∧ REnv W F μ H env σ ∧ RV W F μ H w x ∧ bindT tg w env = some env' ∧
  ∀ σ', REnv W F μ H env' σ' → (∀ j, j ∉ tg.slots → σ'[j]? = σ[j]?) → σ'.length = σ.length → (∀ a, Own env' σ' a → Own env σ a) → Q σ' H
def gGs (W : Wd) (ts : List Tg) : TGs := fun xs σ H Q => ∃ F μ env h ws env', RSt W F μ H h ∧ REnv W F μ H env σ ∧ RVs W F μ H ws xs ∧ bindTs ts ws env = some env' ∧
  ∀ σ', REnv W F μ H env' σ' → (∀ j, j ∉ Tg.slotss ts → σ'[j]? = σ[j]?) → σ'.length = σ.length → (∀ a, Own env' σ' a → Own env σ a) → Q σ' H
theorem getSet {α : Type} {l : List α} {i j : Nat} {x y : α} (e : (l.set i x)[j]? = some y) : (i = j ∧ y = x) ∨ (i ≠ j ∧ l[j]? = some y) := by
  by_cases h : i = j
  · subst h
    have hl : i < l.length := by
      have := (List.getElem?_eq_some_iff.mp e).1
      rw [List.length_set] at this
      exact this
    rw [List.getElem?_set_self hl] at e
    exact .inl ⟨rfl, (Option.some.inj e).symm⟩
  · rw [List.getElem?_set_ne h] at e
    exact .inr ⟨h, e⟩
/-- a slot that is not held alone is stored -/
theorem own_set {i : Nat} {s : Slot} {x : V} (hs : isOwn s = false) {a : Addr} {j : Nat} (o : OwnAt (env.set i (some s)) (σ.set i (some x)) j a) : i ≠ j ∧ OwnAt env σ j a := by
  obtain ⟨t, e1, e2, e3⟩ := o
  rcases getSet e1 with ⟨_, z⟩ | ⟨hn, z⟩
  · cases z
    rw [hs] at e2
    cases e2
  · rcases getSet e3 with ⟨w, _⟩ | ⟨_, w⟩
    · exact absurd w hn
    · exact ⟨hn, t, z, e2, w⟩
theorem REnv.set (r : REnv W F μ H env σ) {i : Nat} {v : Val} {x : V} (hv : RV W F μ H v x) : REnv W F μ H (env.set i (some (.v v))) (σ.set i (some x)) where
  len := by rw [List.length_set, List.length_set]; exact r.len
  sl := fun j s e => by
    rcases getSet e with ⟨rfl, z⟩ | ⟨hn, z⟩
    · cases z
      have hl : i < σ.length := by
        have := (List.getElem?_eq_some_iff.mp e).1
        rw [List.length_set, r.len] at this
        exact this
      exact ⟨x, List.getElem?_set_self hl, hv⟩
    · obtain ⟨y, e1, q⟩ := r.sl j s z
      exact ⟨y, by rw [List.getElem?_set_ne hn]; exact e1, q⟩
  sep := fun j k a h1 h2 => r.sep j k a (own_set rfl h1).2 (own_set rfl h2).2
theorem REnv.own_set (r : REnv W F μ H env σ) {i : Nat} {v : Val} {x : V} {a : Addr} (o : Own (env.set i (some (.v v))) (σ.set i (some x)) a) : Own env σ a := by
  obtain ⟨j, q⟩ := o
  exact ⟨j, (Pyi.own_set rfl q).2⟩
theorem pg_v {i : Nat} {x : Str} {pos : Pos} (hN : X.N.Nodup) (hi : X.N[i]? = some x) (hx : Loc X.env.scope x) (hf : X.fn x = true ∨ X.env.scope.names.lookup x = some .local) : PG X (.Name x pos) (gG W (.v i)) := by
  constructor
  intro pins s σ H x u Q I ru q
  obtain ⟨F, μ, env, h, w, env', r, e, hv, hb, k⟩ := q
  cases hb
  exact (pg_name (i := i) hN hi hx hf).run pins s σ H x u Q I ru (k _ (e.set hv) (fun j hj => List.getElem?_set_ne (fun z => hj (List.mem_singleton.mpr z.symm))) (List.length_set ..) fun a o => e.own_set o)
theorem pg_t {es : List Expr} {ts : List Tg} {k : Nat} {pos : Pos} (hc : X.calm = true) (hK : X.K = W.K) (h : PGs X es (gGs W ts)) (hn : (assignEach es X.env).length = ts.length) (hi : (assignEach es X.env).findIdx? (·.1) = none) : PG X (.Tuple es k pos) (gG W (.t ts)) := by
  constructor
  intro pins s σ H x u Q I ru q
  obtain ⟨F, μ, env, h', w, env', r, e, hv, hb, k'⟩ := q
  cases w with
  | tup vs =>
    obtain ⟨a, xs, rfl, t, q1, _, _⟩ := seqT hv
    have hb' : bindTs ts vs env = some env' := hb
    have hl : ∀ (ts : List Tg) (vs : List Val) (e e' : Env), bindTs ts vs e = some e' → ts.length = vs.length := by
      intro ts
      induction ts with
      | nil =>
        intro vs e e' hb
        cases vs with
        | nil => rfl
        | cons _ _ => cases hb
      | cons t ts ih =>
        intro vs e e' hb
        cases vs with
        | nil => cases hb
        | cons v vs =>
          obtain ⟨e1, _, h2⟩ := Option.bind_eq_some_iff.mp (show (bindT t v e).bind (fun e => bindTs ts vs e) = some e' from hb)
          rw [List.length_cons, List.length_cons, ih vs e1 e' h2]
    exact (pg_tup (n := ts.length) hc h hn hi).run pins s σ H _ u Q I ru ⟨a, xs, rfl, by rw [hK]; exact t, by rw [← RVs.length q1, hl ts vs env env' hb'], F, μ, env, h', vs, env', r, e, q1, hb', k'⟩
  | _ => cases hb
theorem pgs_0 : PGs X [] (gGs W []) := by
  constructor
  intro pins s σ H xs us Q I ru q
  obtain ⟨F, μ, env, h, ws, env', r, e, hv, hb, k⟩ := q
  cases ws with
  | nil =>
    have ex : xs = [] := hv
    subst ex
    cases hb
    exact pgs_nil.run pins s σ H [] us Q I ru ⟨rfl, k σ e (fun _ _ => rfl) rfl fun _ o => o⟩
  | cons _ _ => cases hb
theorem pgs_1 {e : Expr} {es : List Expr} {t : Tg} {ts : List Tg} (h1 : PG X e (gG W t)) (h2 : PGs X es (gGs W ts)) (hs : (assignEach (e :: es) X.env).map (·.2) = assign e X.env :: (assignEach es X.env).map (·.2)) :
    PGs X (e :: es) (gGs W (t :: ts)) := by
  constructor
  intro pins s σ H xs us Q I ru q
  obtain ⟨F, μ, env, h, ws, env', r, e, hv, hb, k⟩ := q
  cases ws with
  | nil => cases hb
  | cons w ws =>
    obtain ⟨x, xr, rfl, hv1, hv2⟩ := hv
    obtain ⟨env1, hb1, hb2⟩ := Option.bind_eq_some_iff.mp (show (bindT t w env).bind (fun e => bindTs ts ws e) = some env' from hb)
    refine (pgs_cons h1 h2 hs).run pins s σ H _ us Q I ru ⟨x, xr, rfl, F, μ, env, h, w, env1, r, e, hv1, hb1, fun σ1 e1 n1 l1 o1 => ?_⟩
    refine ⟨F, μ, env1, h, ws, env', r, e1, hv2, hb2, fun σ2 e2 n2 l2 o2 => ?_⟩
    refine k σ2 e2 (fun j hj => ?_) (l2.trans l1) fun a o => o1 a (o2 a o)
    have hj' : j ∉ t.slots ++ Tg.slotss ts := hj
    rw [n2 j (fun z => hj' (List.mem_append_right _ z)), n1 j fun z => hj' (List.mem_append_left _ z)]

/-! ### walks -/
/-- the iterator yields these values, from any later state -/
def WalkOk (W : Wd) (F : Addr → Prop) (μ : List Addr) (H : Hp) (xs : List Val) (J : L2.It) : Prop := ∀ F' μ' H' h', RSt W F' μ' H' h' → Mon F μ H F' μ' H' →
  (∀ i v, xs[i]? = some v → J.go i H' ∧ ∀ y H2, J.yld i H' y H2 → ∃ F2, RSt W F2 μ' H2 h' ∧ Stp F' μ' H' F2 μ' H2 ∧ RV W F2 μ' H2 v y) ∧ J.stop xs.length H'
abbrev RDi (W : Wd) (Z : WX) (m : Ev (List Val)) : TI := RDg W Z (fun _ F μ H xs J => WalkOk W F μ H xs J) m
theorem walk_seq {v : Val} {x : V} {xs : List Val} (hv : RV W F μ H v x) (e : itemsOf v = some xs) : ∃ a, x = .ref a ∧
    ((∃ ys, SqL W.K H a ys) ∧ WalkOk W F μ H xs (Itl W.K a) ∨ (∃ ys, SqT W.K H a ys) ∧ WalkOk W F μ H xs (Itt W.K a)) := by
  cases v with
  | tup vs =>
    obtain ⟨a, ys, rfl, t, q, f, g⟩ := seqT hv
    cases e
    refine ⟨a, rfl, .inr ⟨⟨ys, t⟩, fun F' μ' H' h' r m => ?_⟩⟩
    have t' : SqT W.K H' a ys := .inl (.inl ((m.fz a f).trans g))
    have q' := RVs.mon m _ _ q
    refine ⟨fun i v hi => ?_, ys, t', by rw [RVs.length q]; exact Nat.le_refl _⟩
    obtain ⟨y, hy, ry⟩ := RVs.get q' hi
    refine ⟨⟨ys, y, t', hy⟩, fun z H2 hz => ?_⟩
    obtain ⟨rfl, hz⟩ := hz
    have ez := hz ys t'
    rw [hy] at ez
    cases ez
    exact ⟨F', r, Stp.refl, ry⟩
  | lst vs =>
    obtain ⟨a, ys, rfl, t, q, f, g⟩ := seqL hv
    cases e
    refine ⟨a, rfl, .inl ⟨⟨ys, t⟩, fun F' μ' H' h' r m => ?_⟩⟩
    have t' : SqL W.K H' a ys := .inl (.inl ((m.fz a f).trans g))
    have q' := RVs.mon m _ _ q
    refine ⟨fun i v hi => ?_, ys, t', by rw [RVs.length q]; exact Nat.le_refl _⟩
    obtain ⟨y, hy, ry⟩ := RVs.get q' hi
    refine ⟨⟨ys, y, t', hy⟩, fun z H2 hz => ?_⟩
    obtain ⟨rfl, hz⟩ := hz
    have ez := hz ys t'
    rw [hy] at ez
    cases ez
    exact ⟨F', r, Stp.refl, ry⟩
  | _ => cases e
theorem rngV_get : ∀ (n : Nat) (lo : Int) (i : Nat) (v : Val), (rngV lo n)[i]? = some v → i < n ∧ v = .int (lo + i)
  | 0, _, _, _, e => by cases e
  | n + 1, lo, 0, v, e => by
    cases e
    exact ⟨Nat.succ_pos _, by simp⟩
  | n + 1, lo, i + 1, v, e => by
    obtain ⟨h1, h2⟩ := rngV_get n (lo + 1) i v e
    refine ⟨Nat.succ_lt_succ h1, ?_⟩
    rw [h2]
    congr 1
    omega
theorem rngV_len : ∀ (n : Nat) (lo : Int), (rngV lo n).length = n
  | 0, _ => rfl
  | n + 1, lo => by
    show (rngV (lo + 1) n).length + 1 = n + 1
    rw [rngV_len n (lo + 1)]
theorem walk_rng (lo : Int) (n : Nat) : WalkOk W F μ H (rngV lo n) (Itr lo n) := by
  intro F' μ' H' h' r m
  refine ⟨fun i v hi => ?_, by rw [rngV_len]; exact Nat.le_refl _⟩
  obtain ⟨h1, h2⟩ := rngV_get n lo i v hi
  refine ⟨h1, fun y H2 hy => ?_⟩
  obtain ⟨rfl, hy⟩ := hy
  subst h2
  exact ⟨F', r, Stp.refl, hy⟩
end
end Pyi
set_option Elab.async false
set_option linter.all false
set_option maxRecDepth 100000
set_option maxHeartbeats 1000000
/-! List comprehensions. -/
namespace Pyi
open PySem PySem.Spec PyProof.Rows L2

/-- no exception is wished for -/
abbrev Z0 : WX := fun _ _ _ _ => False
section
variable {W : Wd} {X : Cx} {Z : WX} {F F' : Addr → Prop} {μ μ' : List Addr} {H H' : Hp} {h h' : Hs} {env : Env} {σ : L2.St}
theorem own_none {i : Nat} {a : Addr} {j : Nat} (o : OwnAt (env.set i none) (σ.set i none) j a) : OwnAt env σ j a := by
  obtain ⟨t, e1, e2, e3⟩ := o
  rcases getSet e1 with ⟨_, z⟩ | ⟨hn, z⟩
  · cases z
  · rcases getSet e3 with ⟨w, _⟩ | ⟨_, w⟩
    · exact absurd w hn
    · exact ⟨t, z, e2, w⟩
theorem REnv.none (r : REnv W F μ H env σ) (i : Nat) : REnv W F μ H (env.set i none) (σ.set i none) where
  len := by rw [List.length_set, List.length_set]; exact r.len
  sl := fun j s e => by
    rcases getSet e with ⟨_, z⟩ | ⟨hn, z⟩
    · cases z
    · obtain ⟨y, e1, q⟩ := r.sl j s z
      exact ⟨y, by rw [List.getElem?_set_ne hn]; exact e1, q⟩
  sep := fun j k a h1 h2 => r.sep j k a (own_none h1) (own_none h2)
theorem REnv.wipe (r : REnv W F μ H env σ) : ∀ vs : List Nat, REnv W F μ H (wipeE env vs) (L2.wipe σ vs)
  | [] => r
  | i :: is => (REnv.wipe r is).none i
theorem wipe_ext {σ σ' : L2.St} {vs : List Nat} (l : σ'.length = σ.length) (e : ∀ j, j ∉ vs → σ'[j]? = (L2.wipe σ vs)[j]?) : L2.wipe σ' vs = L2.wipe σ vs := by
  have key : ∀ (us : List Nat) (τ : L2.St) (j : Nat), (L2.wipe τ us)[j]? = if j ∈ us then (if j < τ.length then some none else none) else τ[j]? := by
    intro us
    induction us with
    | nil => intro τ j; rw [if_neg (by simp)]; rfl
    | cons i is ih =>
      intro τ j
      show ((L2.wipe τ is).set i none)[j]? = _
      by_cases hij : i = j
      · subst hij
        rw [if_pos List.mem_cons_self]
        by_cases hl : i < τ.length
        · rw [if_pos hl, List.getElem?_set_self (by rw [L2.wipe_length]; exact hl)]
        · rw [if_neg hl]
          refine List.getElem?_eq_none ?_
          rw [List.length_set, L2.wipe_length]
          omega
      · rw [List.getElem?_set_ne hij, ih τ j]
        by_cases hm : j ∈ is
        · rw [if_pos hm, if_pos (List.mem_cons_of_mem _ hm)]
        · rw [if_neg hm, if_neg (fun z => (List.mem_cons.mp z).elim (fun q => hij q.symm) hm)]
  refine List.ext_getElem? fun j => ?_
  rw [key vs σ' j, key vs σ j]
  by_cases hm : j ∈ vs
  · rw [if_pos hm, if_pos hm, l]
  · rw [if_neg hm, if_neg hm, e j hm, key vs σ j, if_neg hm]

/-- the turns of a comprehension -/
structure LcInv (W : Wd) (D : Addr) (F1 : Addr → Prop) (μ1 : List Addr) (H1 : Hp) (G : Val → Hs → Out (Option Val)) (xs : List Val) (Good : List Val → Hs → Prop) (i m : Nat) (Hc : Hp) : Prop where
  me : m = xs.length - i
  le : i ≤ xs.length
  ex : ∃ Fc μc hc ws acc, RSt W Fc μc Hc hc ∧ Stp F1 μ1 H1 Fc μc Hc ∧ ¬ Fc D ∧ D ∉ μc ∧ Hc D = some (.lst acc) ∧ RVs W Fc μc Hc ws acc ∧ ws.length ≤ i ∧
    Aft (mapF G (xs.drop i) hc) (fun r h' => Good (ws ++ r) h') (fun _ _ _ => True)

theorem mapF_step {G : Val → Hs → Out (Option Val)} {v : Val} {rest : List Val} {hc : Hs} {Good : List Val → Hs → Prop} (q : Aft (mapF G (v :: rest) hc) Good (fun _ _ _ => True)) :
    ∃ o h2, G v hc = .ok o h2 ∧ Aft (mapF G rest h2) (fun r h' => Good (consO o r) h') (fun _ _ _ => True) := by
  have q1 : Aft ((nx (G v hc)).bind fun o h => (mapF G rest h).bind fun r h => .ok (consO o r) h) Good (fun _ _ _ => True) := q
  cases hg : G v hc with
  | ok o h2 =>
    rw [hg] at q1
    refine ⟨o, h2, rfl, ?_⟩
    have q2 : Aft ((mapF G rest h2).bind fun r h => .ok (consO o r) h) Good (fun _ _ _ => True) := q1
    cases hm : mapF G rest h2 with
    | ok r h3 =>
      rw [hm] at q2
      exact q2
    | exc _ _ _ => trivial
    | bad =>
      rw [hm] at q2
      exact q2
  | exc _ _ _ =>
    rw [hg] at q1
    exact q1.elim
  | bad =>
    rw [hg] at q1
    exact q1.elim
theorem bind_ok {α β : Type} {m : Out α} {f : α → Hs → Out β} {b : β} {h : Hs} (e : m.bind f = .ok b h) : ∃ a h1, m = .ok a h1 ∧ f a h1 = .ok b h := by
  cases m with
  | ok a h1 => exact ⟨a, h1, rfl, e⟩
  | exc _ _ _ => cases e
  | bad => cases e
theorem opt_ok {α : Type} {o : Option α} {h h' : Hs} {a : α} (e : ofOpt o h = .ok a h') : o = some a ∧ h = h' := by
  cases o with
  | some b =>
    cases e
    exact ⟨rfl, rfl⟩
  | none => cases e
theorem mapF_no {G : Val → Hs → Out (Option Val)} : ∀ (xs : List Val) (h : Hs) {Good : List Val → Hs → Prop} {X : Nat → Val → Hs → Prop}, Aft (mapF G xs h) Good X → Aft (mapF G xs h) Good (fun _ _ _ => True) := by
  intro xs h Good X q
  cases hm : mapF G xs h with
  | ok r h3 =>
    rw [hm] at q
    exact q
  | exc _ _ _ => trivial
  | bad =>
    rw [hm] at q
    exact q
theorem drop_cons {α : Type} {l : List α} {i : Nat} {v : α} (e : l[i]? = some v) : l.drop i = v :: l.drop (i + 1) := by
  obtain ⟨h1, h2⟩ := List.getElem?_eq_some_iff.mp e
  rw [List.drop_eq_getElem_cons h1, h2]
def compM (mi : Ev (List Val)) (tg : Tg) (mc : Ev Bool) (me : Ev Val) : Ev (List Val) := fun env h => (mi env h).bind fun xs h => if decide (xs.length ≤ most) then
      mapF (fun x h => (ofOpt (bindT tg x (wipeE env tg.slots)) h).bind fun env' h => (mc env' h).bind fun b h => keepIf b (me env' h) h) xs h else .bad
theorem comp_t {own : List (Str × Nat)} {mi : Ev (List Val)} {mc : Ev Bool} {me : Ev Val} {tg : Tg} (hsl : own.map (·.2) = tg.slots) {σ : L2.St} {H : Hp} {Q : VK} (q : RDf W Z (compM mi tg mc me) σ H Q) :
    tLc (RDi W Z mi) (gG W tg) (RDg W Z0 (fun _ _ _ _ b c => b = c) mc) (RD W Z0 me) (own.map (·.2)) σ H Q := by
  obtain ⟨F, μ, env, h, r, e, a⟩ := q
  unfold compM at a
  show RDi W Z mi σ H _
  refine rd_step r e a fun xs h1 F1 μ1 H1 J r1 e1 s1 wk a1 => ?_
  intro D nD
  by_cases hlen : decide (xs.length ≤ most) = true
  · rw [if_pos hlen] at a1
    have hlen' : xs.length ≤ most := of_decide_eq_true hlen
    generalize hG : (fun x h => (ofOpt (bindT tg x (wipeE env tg.slots)) h).bind fun env' h => (mc env' h).bind fun b h => keepIf b (me env' h) h : Val → Hs → Out (Option Val)) = G at a1
    generalize hGood : (fun (v : List Val) (h' : Hs) => ∀ (F' : Addr → Prop) (μ' : List Addr) (H' : Hp) (x : V), RSt W F' μ' H' h' → Stp F μ H F' μ' H' → Fresh W H F' μ' H' v x → Q x H') = Good at a1
    refine ⟨LcInv W D F1 μ1 H1 G xs Good, ⟨xs.length, by simp, Nat.zero_le _, F1, μ1, h1, [], [], r1.fresh nD, Stp.fresh nD (r1.notF nD), r1.notF nD, r1.notM nD, upd_same, rfl, Nat.le_refl _, mapF_no xs h1 a1⟩, fun i m Hc iv => ?_⟩
    obtain ⟨em, le, Fc, μc, hc', ws, acc, rc, sc, nfD, nmD, gD, rv, hwl, ac⟩ := iv
    have w1 := wk Fc μc Hc hc' rc sc.mon
    by_cases hie : i = xs.length
    · subst hie
      refine .inl ⟨w1.2, ?_⟩
      rw [List.drop_length] at ac
      have fin : Good (ws ++ []) hc' := ac
      rw [List.append_nil, ← hGood] at fin
      refine fin Fc μc Hc (.ref D) rc (s1.trans sc) ⟨D, acc, rfl, ?_, nfD, nmD, gD, rv⟩
      cases hd : H D with
      | none => rfl
      | some o => exact absurd nD (s1.lv D (by rw [hd]; exact fun z => by cases z))
    · have hlt : i < xs.length := by omega
      have hv : xs[i]? = some xs[i] := List.getElem?_eq_getElem hlt
      rw [drop_cons hv] at ac
      obtain ⟨o, h2, eG, ac2⟩ := mapF_step ac
      rw [← hG] at eG
      obtain ⟨env', h3, eb0, eG⟩ := bind_ok eG
      obtain ⟨eb, eh⟩ := opt_ok eb0
      subst eh
      obtain ⟨b, h4, ec, eG⟩ := bind_ok eG
      obtain ⟨go, yl⟩ := w1.1 i xs[i] hv
      refine .inr ⟨go, LcInv W D F1 μ1 H1 G xs Good (i + 1) (xs.length - (i + 1)), fun H' q => ⟨xs.length - (i + 1), by omega, q⟩, fun y H' hy => ?_⟩
      obtain ⟨F2, r2, s2, v2⟩ := yl y H' hy
      have sc2 := sc.trans s2
      rw [hsl]
      refine ⟨F2, μc, wipeE env tg.slots, hc', xs[i], env', r2, (e1.mono sc2).wipe tg.slots, v2, eb, fun σ' e2 n2 l2 o2 => ⟨wipe_ext (l2.trans (L2.wipe_length σ _)) n2, ?_⟩⟩
      refine ⟨F2, μc, env', hc', r2, e2, ?_⟩
      rw [ec]
      intro F3 μ3 H3 b' r3 s3 hb'
      subst hb'
      have gD2 : H' D = some (.lst acc) := s2.keep D _ gD nmD
      have gD3 : H3 D = some (.lst acc) := s3.keep D _ gD2 nmD
      have nfD2 : ¬ F2 D := fun z => by
        rcases s2.fn D z with z | z | ⟨⟨_, z⟩, _⟩
        · exact nfD z
        · rw [gD] at z; cases z
        · rw [gD] at z; cases z
      have nfD3 : ¬ F3 D := fun z => by
        rcases s3.fn D z with z | z | ⟨⟨_, z⟩, _⟩
        · exact nfD2 z
        · rw [gD2] at z; cases z
        · rw [gD2] at z; cases z
      have nmD3 : D ∉ μ3 := fun z => by
        rcases s3.mn D z with z | z
        · exact nmD z
        · rw [gD2] at z; cases z
      cases b with
      | true =>
        rw [if_pos rfl]
        have eG' : (me env' h4).bind (fun y h => Out.ok (some y) h) = .ok o h2 := eG
        obtain ⟨v5, h5, e5, eG⟩ := bind_ok eG'
        cases eG
        refine ⟨F3, μ3, env', h4, r3, e2.mono s3, ?_⟩
        rw [e5]
        intro F6 μ6 H6 z r6 s6 v6
        have gD6 : H6 D = some (.lst acc) := s6.keep D _ gD3 nmD3
        have nfD6 : ¬ F6 D := fun z => by
          rcases s6.fn D z with z | z | ⟨⟨_, z⟩, _⟩
          · exact nfD3 z
          · rw [gD3] at z; cases z
          · rw [gD3] at z; cases z
        have nmD6 : D ∉ μ6 := fun z => by
          rcases s6.mn D z with z | z
          · exact nmD3 z
          · rw [gD3] at z; cases z
        have sAll : Stp Fc μc Hc F6 μ6 H6 := (s2.trans s3).trans s6
        refine ⟨acc, gD6, ?_, ?_⟩
        · rw [← RVs.length rv]
          exact Nat.lt_of_le_of_lt (Nat.le_trans hwl (Nat.le_trans le hlen')) (by rw [sizeLine_eq]; decide)
        · refine ⟨rfl, hlt, F6, μ6, h2, ws ++ [v5], acc ++ [z], r6.out nfD6 nmD6, Stp.again r1 (sc.trans sAll) nD nfD6 (by rw [gD6]; exact fun q => by cases q), nfD6, nmD6, upd_same,
            RVs.out nfD6 _ _ (RVs.append (RVs.mono sAll _ _ rv) ⟨z, [], rfl, v6, rfl⟩), by rw [List.length_append]; exact Nat.succ_le_succ hwl, ?_⟩
          have ac3 : Aft (mapF G (xs.drop (i + 1)) h2) (fun r h' => Good (ws ++ v5 :: r) h') (fun _ _ _ => True) := ac2
          have ee : (fun (r : List Val) (h' : Hs) => Good (ws ++ [v5] ++ r) h') = fun r h' => Good (ws ++ v5 :: r) h' := by
            funext r h'
            rw [List.append_assoc]
            rfl
          rw [ee]
          exact ac3
      | false =>
        rw [if_neg Bool.false_ne_true]
        have eG' : Out.ok none h4 = .ok o h2 := eG
        cases eG'
        have sAll : Stp Fc μc Hc F3 μ3 H3 := s2.trans s3
        exact ⟨rfl, hlt, F3, μ3, h2, ws, acc, r3, sc.trans sAll, nfD3, nmD3, gD3, RVs.mono sAll _ _ rv, Nat.le_succ_of_le hwl, ac2⟩
  · rw [if_neg hlen] at a1
    exact a1.elim
theorem comp_ok {elt tgx iter : Expr} {ifs : List Expr} {scope : Scope} {own : List (Str × Nat)} {pos : Pos} {mi : Ev (List Val)} {mc : Ev Bool} {me : Ev Val} {tg : Tg}
    (hc : X.calm = true) (hN : X.N.Nodup) (hi : PI X tgx iter (RDi W Z mi)) (ok : BlkOk X.N X.env.scope scope own) (hsl : own.map (·.2) = tg.slots)
    (hg : ∀ (s : Shared) (H : Hp) (C : Addr) (cl : List (Str × Addr)) (fp : List Addr), PG (X.blk s H scope (compEnvC scope cl C X.env) fp) tgx (gG W tg))
    (ht : ∀ (s : Shared) (H : Hp) (C : Addr) (cl : List (Str × Addr)) (fp : List Addr), PTs (X.blk s H scope (compEnvC scope cl C X.env) fp) ifs (RDg W Z0 (fun _ _ _ _ b c => b = c) mc))
    (he : ∀ (s : Shared) (H : Hp) (C : Addr) (cl : List (Str × Addr)) (fp : List Addr), PE (X.blk s H scope (compEnvC scope cl C X.env) fp) elt (RD W Z0 me)) (hs : ∀ x, foldedSetIterable iter X.env x = pure x) :
    PE X (.ListComp elt [⟨tgx, iter, ifs, 0⟩] scope pos) (RDf W Z (fun env h => (mi env h).bind fun xs h => if decide (xs.length ≤ most) then
      mapF (fun x h => (ofOpt (bindT tg x (wipeE env tg.slots)) h).bind fun env' h => (mc env' h).bind fun b h => keepIf b (me env' h) h) xs h else .bad)) := by
  exact PE.imp (pe_lc hc hN hi ok hg ht he hs) fun σ H Q q => comp_t hsl q
end
end Pyi
set_option Elab.async false
set_option linter.all false
set_option maxRecDepth 100000
set_option maxHeartbeats 2000000
/-! Dicts whose keys are tuples: a comprehension, the list of the items. -/
namespace DTu
open PySem PySem.Spec PyProof.Rows L2
/-- the table at D gets an entry, in a comprehension -/
theorem put_in {X : Cx} {pins : List (Addr × Obj)} {σ : L2.St} {H : Hp} {s : Shared} {E : Value → Shared → Prop} {D b : Addr} {kvs : List (List Key × V)} {ks : List Key} {v : V} {r : Value} {Q : Unit → Shared → Prop} (hu : X.A.units + 1 < cLine) (I : Inv X pins σ H s) (hD : H D = some (.dT kvs))
    (hb : H b = some (.tup (ks.map kV))) (small : kvs.length < sizeLine) (rv : RelV v r) (h : ∀ t, Inv X pins σ (upd H D (.dT (putK kvs ks v))) t → Q () t) : wpAny (model X.prog X.w) X.A (dictSet D (.ref b) r) Q E s := by
  obtain ⟨z, ns, xs, rel, dd⟩ := dt_of I.hok hD
  have room : xs.length ≤ sizeLine := by rw [← Paired.length rel]; exact z
  have more : (putK kvs ks v).length ≤ sizeLine := by have := length_putK kvs ks v; omega
  refine wpAny_dictSet_heap (hsz := room) (show (tupleKind (mixKind X.prog X.w)).room X.A from (show X.A.units < cLine by omega)) (key_of I.hok hb) dd fun h' dd' sb => h _ ?_
  obtain ⟨q, es, ep, hq, h2, h3, h4, _, h5⟩ := dd'
  refine d_write I (by rw [hD]; exact True.intro) sb ⟨q, hq⟩ ⟨more, ns, _, (rel.put ks hb rv).keeps fun c ys ec => ?_, q, es, ep, hq, h2, h3, h4, h5⟩
  rw [upd_ne (ne_of ec hD (fun z => nomatch z))]
  exact ec
section
variable {X : Cx}
/-- {k: v for target in iter if ..}, the keys tuples: D the new dict -/
def tDcT (wi : TI) (g : TG) (tt : TT) (tk tv : TE) (vs : List Nat) : TE := fun σ H Q => wi σ H fun J H1 => ∀ D, H1 D = none → ∃ W : Nat → Nat → Hp → Prop, (∃ m, W 0 m (upd H1 D (.dT []))) ∧ ∀ i m H, W i m H →
  (J.stop i H ∧ Q (.ref D) H) ∨ (J.go i H ∧ ∃ Nx : Hp → Prop, (∀ H', Nx H' → ∃ m', m' < m ∧ W (i + 1) m' H') ∧ ∀ x H', J.yld i H x H' → g x (wipe σ vs) H' fun σ2 H2 => wipe σ2 vs = wipe σ vs ∧ tt σ2 H2 fun b H3 =>
    if b = true then tk σ2 H3 fun y H4 => tv σ2 H4 fun z H5 => ∃ kvs k c, y = .ref c ∧ H5 c = some (.tup (List.map kV k)) ∧ H5 D = some (.dT kvs) ∧ kvs.length < sizeLine ∧ Nx (upd H5 D (.dT (putK kvs k z))) else Nx H3)
theorem pe_dcT {kx vx tg iter : Expr} {ifs : List Expr} {scope : Scope} {own : List (Str × Nat)} {pos : Pos} {wi : TI} {g : TG} {tt : TT} {tk tv : TE} (hu : X.A.units + 1 < cLine) (hc : X.calm = true) (hN : X.N.Nodup) (hi : PI X tg iter wi) (ok : BlkOk X.N X.env.scope scope own)
    (hg : ∀ (s : Shared) (H : Hp) (C : Addr) (cl : List (Str × Addr)) (fp : List Addr), PG (X.blk s H scope (compEnvC scope cl C X.env) fp) tg g) (ht : ∀ (s : Shared) (H : Hp) (C : Addr) (cl : List (Str × Addr)) (fp : List Addr), PTs (X.blk s H scope (compEnvC scope cl C X.env) fp) ifs tt)
    (hk : ∀ (s : Shared) (H : Hp) (C : Addr) (cl : List (Str × Addr)) (fp : List Addr), PE (X.blk s H scope (compEnvC scope cl C X.env) fp) kx tk) (he : ∀ (s : Shared) (H : Hp) (C : Addr) (cl : List (Str × Addr)) (fp : List Addr), PE (X.blk s H scope (compEnvC scope cl C X.env) fp) vx tv)
    (hs : ∀ x, foldedSetIterable iter X.env x = pure x) : PE X (.DictComp kx vx [⟨tg, iter, ifs, 0⟩] scope pos) (tDcT wi g tt tk tv (own.map (·.2))) := by
  refine ⟨fun pins s σ H Q I h => ?_⟩
  rw [arm_eval_DictComp]
  have clo : ∀ y ∈ scope.names, y.2 = .free → ∃ c, X.env.cells.lookup y.1 = some c := fun y hy e => I.ok.has _ (ok.free y hy e)
  refine wpAny_comprehension_free (use := none) rfl hs (closure_ok clo) ok.kind (fun y hy e => by rw [ok.uniq y hy, e]) (thn (hi.run pins s σ H _ I h) fun xv s1 hx => thn hx fun itv s2 h2 => ?_)
  obtain ⟨it, fp, tn, J, H2, rfl, I2, T, st2, f2, q⟩ := h2
  refine wpAny_newObj_type (newEnv_comp ?_)
  generalize hD : s2.heap.objs.size = D
  obtain ⟨W, ⟨m0, w0⟩, turn⟩ := q D (I2.hok.fresh (Nat.le_of_eq hD))
  generalize hs3 : ({ s2 with heap := s2.heap.push { cls := .type "dict", data := .dict #[] } } : Shared) = s3
  have I3 : Inv X pins σ (upd H2 D (.dT [])) s3 := by
    rw [← hs3]
    exact I2.laid (t' := s2.toks) (fun b o e => Heap.get?_push_of_some _ e) (Nat.le_of_eq hD) (by rw [← hD]; exact dt_empty s2.heap I2.big)
  have h3 : s3.heap = s2.heap.push { cls := .type "dict", data := .dict #[] } := by rw [← hs3]
  have lt2 : ∀ b ∈ fp, b < s2.heap.objs.size := fun b hb => let ⟨o, e, _⟩ := T.obj _ _ st2 b hb; Heap.lt_size e
  have f3 : ∀ b ∈ fp, FpOk X pins (upd H2 D (.dT [])) b ∧ b < s3.heap.objs.size := by
    intro b hb
    have l := lt2 b hb
    refine ⟨⟨?_, (f2 b hb).2⟩, by rw [h3, Heap.size_push]; exact Nat.lt_succ_of_lt l⟩
    rw [upd_ne (show b ≠ D from hD ▸ Nat.ne_of_lt l)]
    exact (f2 b hb).1
  have st3 : tn 0 s3.heap := T.keep _ _ _ st2 fun b _ o e => by rw [h3]; exact Heap.get?_push_of_some _ e
  have I4 := block_start I3 ok hN f3
  let cl := cellsFrom (s3.heap.objs.size + 1) scope.names (cloFrom X.env.cells scope.names [])
  have pg := hg s3 (upd H2 D (.dT [])) s3.heap.objs.size cl fp
  have pt := ht s3 (upd H2 D (.dT [])) s3.heap.objs.size cl fp
  have pk := hk s3 (upd H2 D (.dT [])) s3.heap.objs.size cl fp
  have pe := he s3 (upd H2 D (.dT [])) s3.heap.objs.size cl fp
  show codeAny _ _ (.compStart (.DictComp kx vx [⟨tg, iter, ifs, 0⟩] scope pos) 0 (.ref it) (.ref D) (compEnvC scope cl s3.heap.objs.size X.env)) (compPost (model X.prog X.w) X.A X.xe none _ (.ref D) s3.heap.objs.size) { s3 with heap := pushCells (s3.heap.push { cls := .type "dict", data := .dict #[] }) scope.names }
  have nfp : ∀ b ∈ fp, (upd H2 D (.dT [])) b = none := fun b hb => (f3 b hb).1.1
  have I4 : Inv (X.blk s3 (upd H2 D (.dT [])) scope (compEnvC scope cl s3.heap.objs.size X.env) fp) [] _ _ _ := I4
  generalize hce : compEnvC scope cl s3.heap.objs.size X.env = ce at I4 pg pt pk pe ⊢
  have cL : ce.locals = s3.heap.objs.size := by subst hce; rfl
  generalize hH3 : upd H2 D (.dT []) = H3 at I3 I4 pg pt pk pe w0 nfp f3
  generalize hs4 : ({ s3 with heap := pushCells (s3.heap.push { cls := .type "dict", data := .dict #[] }) scope.names } : Shared) = s4 at I4 ⊢
  have st4 : tn 0 s4.heap := T.keep _ _ _ st3 fun b _ o e => by rw [← hs4]; exact pushCells_keeps _ _ _ _ (Heap.get?_push_of_some _ e)
  have fix : ∀ {τ : L2.St} {G : Hp} {t : Shared}, Inv (X.blk s3 H3 scope ce fp) [] τ G t → (∀ b ∈ fp, G b = none) → ∀ b ∈ fp, FpOk (X.blk s3 H3 scope ce fp) [] G b := by
    intro τ G t J hn b hb
    exact ⟨hn b hb, (J.ok.exf b hb).1, J.ok.exfs b hb, .inl hb, fun x c e => (J.ok.exf b hb).2 x c e, fun p hp => absurd (show p ∈ ([] : List (Addr × Obj)) ++ [] from hp) (by simp)⟩
  refine codeAny_compStart_dict ?loop (T.self X.A 0 _ _ _ st4 ?loop)
  refine compLoop_anyD (fun n t => ∃ i G, Inv (X.blk s3 H3 scope ce fp) [] (wipe σ (own.map (·.2))) G t ∧ tn i t.heap ∧ (∀ b ∈ fp, G b = none) ∧ W i n G) ?_ m0 ⟨0, H3, I4, st4, nfp, w0⟩
  rintro n s5 ⟨i, H5, I5, st5, n5, w5⟩
  rcases turn i n H5 w5 with ⟨stop, qq⟩ | ⟨go, Nx, hNx, step⟩
  · refine thnF (T.done (X.blk s3 H3 scope ce fp) rfl rfl rfl hc i [] s5 _ H5 (fun _ _ => False) I5 (fix I5 n5) st5 stop) ?_
    rintro r s6 ⟨rfl, I6⟩
    have I7 : Inv X pins σ H5 s6 := I3.call' (ch := fp) I6.os I6.base I6.hok I6.bare fun b hb => let z := (f3 b hb).1; ⟨z.2.2.2.1, z.2.1, z.2.2.2.2.1, z.2.2.2.2.2⟩
    have nC : H5 s3.heap.objs.size = none := cL ▸ (show H5 ce.locals = none from I6.free)
    obtain ⟨m, hn, _⟩ := I6.loc
    have hn : s6.heap.Ns s3.heap.objs.size m := cL ▸ (show s6.heap.Ns ce.locals m from hn)
    refine ⟨m, hn, fun h'' sb => ?_⟩
    obtain ⟨f0, f1, fx, f3, f4, f5⟩ := I3.fpOk (Nat.le_refl _) nC
    exact ⟨.ref D, H5, I7.turned (t' := s6.toks) (fun b o hb e => (sb.2 b hb).trans e) f0 f1 f3 f4 f5, rfl, qq⟩
  · refine thnF (T.item (X.blk s3 H3 scope ce fp) rfl rfl rfl hc i [] s5 _ H5 (fun _ _ => False) I5 (fix I5 n5) st5 go) ?_
    rintro r s6 ⟨u, rfl, h6⟩
    refine thnF h6 ?_
    rintro _ s7 ⟨x, H7, I7, r7, y7, st7, n7⟩
    have I7' := I7.pinned (fix I7 n7) (T.obj _ _ st7)
    refine thnF (pg.run _ s7 _ H7 x u _ I7' r7 (step x H7 y7)) ?_
    rintro _ s8 ⟨σ8, H8, I8, hw8, q8⟩
    refine thnF (pt.run _ s8 σ8 H8 _ I8 q8) ?_
    rintro b s9 ⟨H9, I9, q9⟩
    have ends : ∀ {t : Shared} {G : Hp}, Inv (X.blk s3 H3 scope ce fp) ([] ++ pinsAt fp s7.heap) σ8 G t → Nx G → ∃ m, m < n ∧ ∃ i G, Inv (X.blk s3 H3 scope ce fp) [] (wipe σ (own.map (·.2))) G t ∧ tn i t.heap ∧ (∀ b ∈ fp, G b = none) ∧ W i m G := by
      intro t G J nx
      obtain ⟨m', hm, w'⟩ := hNx G nx
      have pinned : ∀ b ∈ fp, ∀ o, s7.heap.get? b = some o → t.heap.get? b = some o ∧ G b = none := fun b hb o e =>
        let z := J.pin (b, o) (List.mem_append_right _ (List.mem_append_right _ (mem_pinsAt hb e)))
        ⟨z.1, z.2.1⟩
      refine ⟨m', hm, i + 1, G, (J.unpinned (pins := [])).weak (by rw [← hw8, wipe_length]) (fun j v e => ?_), T.keep _ _ _ st7 fun b hb o e => (pinned b hb o e).1, fun b hb => ?_, w'⟩
      · rw [← hw8] at e
        exact (wipe_some e).1
      · obtain ⟨o, e, _⟩ := T.obj _ _ st7 b hb
        exact (pinned b hb o e).2
    cases b with
    | false =>
      simp only [Bool.false_eq_true, if_false] at q9 ⊢
      exact ends I9 q9
    | true =>
      simp only [if_true] at q9 ⊢
      refine thnF (pk.run _ s9 σ8 H9 _ I9 q9) ?_
      rintro z s10 ⟨yk, H10, I10, r10, q10⟩
      refine thnF (pe.run _ s10 σ8 H10 _ I10 q10) ?_
      rintro z2 s11 ⟨yv, H11, I11, r11, kvs, ks, c, ek, hc11, hD11, hz11, nx⟩
      subst ek
      obtain rfl : z = Value.ref c := r10
      exact put_in (X := X.blk s3 H3 scope ce fp) hu I11 hD11 hc11 hz11 r11 fun s12 I12 => ends I12 nx
/-! ### list(d.items()) -/
/-- tuples tracked at their addresses -/
def putL : Hp → List Addr → List (List V) → Hp
  | H, a :: as, v :: vs => putL (upd H a (.tup v)) as vs
  | H, _, _ => H
theorem putL_off {b : Addr} : ∀ (as : List Addr) (vs : List (List V)) (H : Hp), b ∉ as → putL H as vs b = H b
  | [], _, _, _ => rfl
  | _ :: _, [], _, _ => rfl
  | a :: as, v :: vs, H, h => (putL_off as vs _ fun z => h (List.mem_cons_of_mem _ z)).trans (upd_ne fun z => h (z ▸ List.mem_cons_self))
theorem putL_at : ∀ (as : List Addr) (vs : List (List V)) (H : Hp), as.length = vs.length → as.Nodup → ∀ (j : Nat) (a : Addr), as[j]? = some a → ∃ v, vs[j]? = some v ∧ putL H as vs a = some (.tup v)
  | [], _, _, _, _, j, a, e => by simp at e
  | _ :: _, [], _, h, _, _, _, _ => by cases h
  | a :: as, v :: vs, H, h, hn, 0, b, e => by
    cases e
    exact ⟨v, rfl, (putL_off as vs _ (List.nodup_cons.mp hn).1).trans upd_same⟩
  | a :: as, v :: vs, H, h, hn, j + 1, b, e => putL_at as vs _ (Nat.succ.inj h) (List.nodup_cons.mp hn).2 j b e
def rItems2 : List V → Hp → VK → Prop := fun xs H Q => ∃ (p d : Addr) (kvs : List (List Key × V)), xs = [.ref p] ∧ H p = some (L2.DX.itemsO p d) ∧ H d = some (.dT kvs) ∧
  ∀ (G : Hp) (l : Addr) (ts : List Addr), (∀ b o, H b = some o → G b = some o) → H l = none → (∀ t ∈ ts, H t = none) → l ∉ ts → ts.Nodup → ts.length = kvs.length → G l = some (.lst (ts.map V.ref)) →
    (∀ (j : Nat) (t : Addr), ts[j]? = some t → ∃ q b, kvs[j]? = some q ∧ H b = some (.tup (q.1.map kV)) ∧ G t = some (.tup [.ref b, q.2])) → Q (.ref l) G
theorem call_items2 (hc : X.calm = true) : CallR X (.type "list") rItems2 := by
  intro pins s σ H xs us Q I r h
  obtain ⟨p, d, kvs, rfl, hp, hd, q⟩ := h
  obtain ⟨u, rfl, rx⟩ := vals1 r
  cases rx
  obtain ⟨view, _⟩ := (show ObjOk X.prog X.w H s.heap p (L2.DX.itemsO p d) from I.hok p _ hp)
  obtain ⟨z, _, ks, rel, o, es, ep, ho, hx, hdat, hes, his, _⟩ := dt_of I.hok hd
  have len : kvs.length = ks.length := Paired.length rel
  have sz : es.size = ks.length := by rw [← Array.length_toList, hes, List.length_map]
  refine PySem.W.dil_call (es := es) (ep := ep) (I.ok.hd hc) view ⟨o, ho, hx, hdat⟩ (by rw [sz, ← len]; exact z) fun h' tk acc c as keep obj ln G hacc => ?_
  have low : ∀ b o, s.heap.get? b = some o → b ∉ as ∧ b ≠ s.heap.objs.size := fun b o e => ⟨fun y => absurd (Heap.lt_size e) (Nat.not_lt.mpr (Nat.le_of_lt (G.above b y))), Nat.ne_of_lt (Heap.lt_size e)⟩
  have self : s.heap.objs.size ∉ as := fun y => Nat.lt_irrefl _ (G.above _ y)
  have nd : as.Nodup := List.Pairwise.imp (fun {a b} (h : a < b) => Nat.ne_of_lt h) G.rise
  have new : ∀ t ∈ as, H t = none := fun t ht => I.hok.fresh (Nat.le_of_lt (G.above t ht))
  have newS : H s.heap.objs.size = none := I.hok.fresh (Nat.le_refl _)
  let vs : List (List V) := (kvs.zip ks).map fun x => [V.ref x.2.2.1, x.1.2]
  have lvs : as.length = vs.length := by rw [ln, sz, List.length_map, List.length_zip, len, Nat.min_self]
  let H2 := putL (upd H s.heap.objs.size (.lst (as.map V.ref))) as vs
  have off : ∀ b, b ∉ as → b ≠ s.heap.objs.size → H2 b = H b := fun b h1 h2 => (putL_off as vs _ h1).trans (upd_ne h2)
  have atS : H2 s.heap.objs.size = some (.lst (as.map V.ref)) := (putL_off as vs _ self).trans upd_same
  have kp : ∀ b u, H b = some u → H2 b = some u := fun b u e => (off b (fun y => by rw [new b y] at e; cases e) (fun y => by rw [y, newS] at e; cases e)).trans e
  -- the j-th tuple
  have item : ∀ (j : Nat) (t : Addr), as[j]? = some t → ∃ q x, kvs[j]? = some q ∧ ks[j]? = some x ∧ H x.2.1 = some (.tup (q.1.map kV)) ∧ RelV q.2 x.2.2 ∧ H2 t = some (.tup [.ref x.2.1, q.2]) ∧ h'.get? t = some { cls := .type "tuple", data := .seq #[.ref x.2.1, x.2.2] } := by
    intro j t e
    obtain ⟨v, e1, e2⟩ := putL_at as vs (upd H s.heap.objs.size (.lst (as.map V.ref))) lvs nd j t e
    have e1' : ((kvs.zip ks)[j]?).map (fun x => [V.ref x.2.2.1, x.1.2]) = some v := by rw [← List.getElem?_map]; exact e1
    obtain ⟨y, e3, e4⟩ := Option.map_eq_some_iff.mp e1'
    obtain ⟨g1, g2⟩ := List.getElem?_zip_eq_some.mp e3
    obtain ⟨x2, g3, r1, r2, r3⟩ := LiI.paired_get rel g1
    rw [g2] at g3
    cases g3
    obtain ⟨hj, g4⟩ := G.pairs j t e
    have g5 : es[j]? = some (entryOfKey (tupleKind (mixKind X.prog X.w)) y.2) := by rw [entry_at hes j, g2]; rfl
    rw [Array.getElem?_eq_getElem hj] at g5
    have g6 := Option.some.inj g5
    refine ⟨y.1, y.2, g1, g2, by rw [r2], r3, (by rw [e4]; exact e2), ?_⟩
    rw [g4, g6]
    rfl
  refine ⟨.ref s.heap.objs.size, H2, ?_, rfl, q H2 s.heap.objs.size as kp newS new self nd (by rw [ln, sz, len]) atS fun j t e => ?_⟩
  · refine I.call' (ch := []) rfl ⟨fun b o q _ _ _ => keep b o q, fun b o q _ _ _ => ⟨o.slots, keep b o q⟩, fun b o q n _ => ?_, fun b o q _ => ⟨o, keep b o q⟩, fun b xs q => kp b _ q, fun b o u q => kp b _ q, fun b ps q => ⟨#[], by rw [kp b _ q]; simp⟩⟩ (fun b u q => ?_) I.bare fun b z => by simp at z
    · obtain ⟨z1, z2⟩ := low b o q
      rw [off b z1 z2]
      exact n
    · by_cases hb : b ∈ as
      · obtain ⟨j, hj, ej⟩ := List.mem_iff_getElem.mp hb
        obtain ⟨q1, x, _, _, _, r3, e2, e3⟩ := item j b (by rw [List.getElem?_eq_getElem hj, ej])
        rw [e2] at q
        cases q
        exact ⟨by show 2 ≤ sizeLine; decide, [.ref x.2.1, x.2.2], .cons rfl (.cons r3 .nil), ⟨_, e3, rfl, _, rfl⟩⟩
      · by_cases hb2 : b = s.heap.objs.size
        · rw [hb2] at q ⊢
          rw [atS] at q
          cases q
          refine ⟨by rw [List.length_map, ln, sz, ← len]; exact z, acc.toList, c, by rw [hacc]; exact LiI.vals_refs as, ?_⟩
          rw [Array.toArray_toList]
          exact obj
        · rw [off b hb hb2] at q
          exact (I.hok b u q).stay (fun d v _ y => keep d v y) (fun d y => kp d _ y) fun d xs y => kp d _ y
  · obtain ⟨q1, x, e1, _, e2, _, e3, _⟩ := item j t e
    exact ⟨q1, x.2.1, e1, e2, e3⟩
end
end DTu
set_option Elab.async false
set_option linter.all false
set_option maxRecDepth 100000
set_option maxHeartbeats 2000000
/-! t[::-1] of a tuple. -/
namespace DTu
open PySem PySem.Spec PyProof.Rows L2 HT
section
variable {prog : Program} {w : World} {A : Around} {E : Value → Shared → Prop} {s : Shared}
theorem back_places (n : Nat) : Builtin.Slice.slicePlaces ((n : Int) - 1) (-1) (-1) = n := by
  unfold Builtin.Slice.slicePlaces
  rw [if_neg (by decide)]
  split <;> simp <;> omega
theorem fm_map {α β : Type} (f : α → Option β) (g : α → β) : ∀ l : List α, (∀ k ∈ l, f k = some (g k)) → l.filterMap f = l.map g
  | [], _ => rfl
  | x :: l, h => by
    rw [List.filterMap_cons, h x List.mem_cons_self, List.map_cons, fm_map f g l fun k hk => h k (List.mem_cons_of_mem _ hk)]
theorem vals_back : ∀ {xs : List V} {us : List Value}, Vals xs us → Vals xs.reverse us.reverse
  | _, _, .nil => .nil
  | _, _, .cons r t => by
    rw [List.reverse_cons, List.reverse_cons]
    exact Vals.append (vals_back t) (.cons r .nil)
theorem back_pick (xs : Array Value) : ((List.range xs.size).filterMap fun (k : Nat) => xs[(((xs.size : Int) - 1) + (k : Int) * (-1)).toNat]?).toArray = xs.toList.reverse.toArray := by
  congr 1
  refine List.ext_getElem? fun j => ?_
  have e : ∀ k ∈ List.range xs.size, xs[(((xs.size : Int) - 1) + (k : Int) * (-1)).toNat]? = some (xs.toList.reverse.getD k default) := by
    intro k hk
    have hk' := List.mem_range.mp hk
    have e1 : (((xs.size : Int) - 1) + (k : Int) * (-1)).toNat = xs.size - 1 - k := by omega
    rw [e1]
    have h1 : xs.size - 1 - k < xs.size := by omega
    rw [Array.getElem?_eq_getElem h1]
    congr 1
    rw [List.getD_eq_getElem?_getD, List.getElem?_reverse (by rw [Array.length_toList]; exact hk'), Array.length_toList]
    first | (rw [Array.getElem?_toList, Array.getElem?_eq_getElem h1] <;> rfl) | (rw [Array.getElem?_eq_getElem h1] <;> rfl)
  have e2 : ((List.range xs.size).filterMap fun (k : Nat) => xs[(((xs.size : Int) - 1) + (k : Int) * (-1)).toNat]?) = (List.range xs.size).map fun k => xs.toList.reverse.getD k default := by
    exact fm_map _ _ _ e
  rw [e2]
  by_cases hj : j < xs.size
  · rw [List.getElem?_map, List.getElem?_range hj]
    show some (xs.toList.reverse.getD j default) = _
    rw [List.getD_eq_getElem?_getD, List.getElem?_eq_getElem (by rw [List.length_reverse, Array.length_toList]; exact hj)]
    rfl
  · rw [List.getElem?_eq_none (by rw [List.length_map, List.length_range]; omega), List.getElem?_eq_none (by rw [List.length_reverse, Array.length_toList]; omega)]
theorem getItem_back {t sl : Addr} {items : Array Value} {u : Tok} {Q : Value → Shared → Prop} (ht : IsTup s.heap t items) (hs : s.heap.IsSliceOf sl .none .none (.int (-1) u))
    (h : Q (.ref s.heap.objs.size) { s with heap := s.heap.push { cls := .type "tuple", data := .seq items.toList.reverse.toArray } }) (hsz : items.size ≤ sizeLine) : wpAny (model prog w) A (getItem (.ref t) (.ref sl)) Q E s := by
  have room : sizeOk (.seq items.toList.reverse.toArray) := by
    show items.toList.reverse.toArray.size ≤ sizeLine
    rw [List.size_toArray, List.length_reverse, Array.length_toList]
    exact hsz
  obtain ⟨os, hos, hcs, hds⟩ := id hs
  have hTs : s.TypeIs (.ref sl) "slice" := ⟨os, hos, hcs⟩
  unfold getItem
  try with_reducible refine wpAny_holding ?_
  first | refine wpAny_bind (wpAny_pure ?_) | skip
  refine wpAny_bind (wpAny_sequenceKey ht.typeIs (by decide) (wpAny_bind (wpAny_callSpecial?_slot (name := Str.ofString "__getitem__") ht.typeIs PyProof.Rows.slot_tuple_getitem
    (wpAny_call_entry PyProof.Rows.slot_tuple_getitem ht.typeIs entry_tuple_getitem ?_ (args_tuple_getitem _ _)))))
  show wpAny _ _ (Builtin.Tuple.tupleItemsOf (.ref t) >>= _) _ _ s
  refine wpAny_bind (tupleItemsOf_ ht (wpAny_bind (wpAny_typeOf hTs ?_)))
  rw [if_pos (by decide)]
  have app : ∀ {R : Int × Int × Nat → Shared → Prop} {E' : Value → Shared → Prop} {A' : Around}, R ((items.size : Int) - 1, -1, items.size) s → wpAny (model prog w) A' (Builtin.Slice.sliceApplied (.ref sl) (pure (items.size : Int))) R E' s := by
    intro R E' A' hR
    unfold Builtin.Slice.sliceApplied Builtin.Slice.sliceFields
    refine wpAny_bind (wpAny_bind (wpAny_field hos hds (x := .none) rfl (wpAny_bind (wpAny_field hos hds (x := .none) rfl (wpAny_bind (wpAny_field hos hds (x := .int (-1) u) rfl (wpAny_pure ?_)))))))
    refine wpAny_bind (slicePart_int ?_)
    show wpAny _ _ (if ((-1 : Int) == 0) = true then _ else _) _ _ s
    rw [if_neg (by decide)]
    refine wpAny_bind (slicePart_none (wpAny_bind (slicePart_none (wpAny_bind (wpAny_pure ?_)))))
    show wpAny _ _ (pure (((items.size : Int) - 1), (-1 : Int), Builtin.Slice.slicePlaces ((items.size : Int) - 1) (-1) (-1))) _ _ s
    rw [back_places]
    exact wpAny_pure hR
  refine wpAny_bind (app ?_)
  have no : ¬ ((((items.size : Int) - 1) == 0 && (-1 : Int) == 1 && items.size == items.size) = true) := by simp
  show wpAny _ _ (if (((items.size : Int) - 1) == 0 && (-1 : Int) == 1 && items.size == items.size) = true then _ else _) _ _ s
  rw [if_neg no, back_pick]
  first
    | exact wpAny_bind (m := Builtin.Tuple.tupleExact _) (wpAny_newObj_type (wpAny_pure ⟨_, rfl, wpAny_pure h⟩) room)
    | exact wpAny_bind (m := Builtin.Tuple.tupleExact _) (wpAny_newObj_type (wpAny_bind (wpAny_pure (wpAny_pure ⟨_, rfl, wpAny_pure h⟩))) room)
    | exact wpAny_bind (wpAny_bind (m := Builtin.Tuple.tupleExact _) (wpAny_newObj_type (wpAny_pure (wpAny_pure ⟨_, rfl, wpAny_pure h⟩)) room))
    | exact wpAny_bind (wpAny_bind (m := Builtin.Tuple.tupleExact _) (wpAny_newObj_type (wpAny_pure ⟨_, rfl, wpAny_pure h⟩) room))
end
section
variable {X : Cx}
/-- t[::-1] -/
def tBack (K : PySem.W.Frag) (te tc : TE) : TE := fun σ H Q => te σ H fun x H1 => tc σ H1 fun y H2 => y = .int (-1) ∧ ∃ a xs, x = .ref a ∧ SqT K H2 a xs ∧ ∀ p, H2 p = none → Q (.ref p) (upd H2 p (.tup xs.reverse))
theorem pe_back {e c : Expr} {te tc : TE} {pos p2 : Pos} (he : PE X e te) (hc : PE X c tc) : PE X (.Subscript e (.Slice none none (some c) p2) pos) (tBack X.K te tc) := by
  refine ⟨fun pins s σ H Q I h => ?_⟩
  refine Subscript_ (thn (he.run pins s σ H _ I h) fun v s1 ⟨x, H1, I1, r1, q1⟩ => ?_)
  refine wpAny_Slice (wpAny_pure (wpAny_pure (thn (hc.run pins s1 σ H1 _ I1 q1) ?_)))
  rintro uv s2 ⟨y, H2, I2, r2, ey, a, xs, ex, sq, q⟩
  subst ex ey
  cases r1
  obtain ⟨tk, rfl⟩ := r2
  have I4 : Inv X pins σ H2 { s2 with heap := s2.heap.push { cls := .type "slice", data := .fields #[.none, .none, .int (-1) tk] } } := I2.kept (t' := s2.toks) fun b ob q => Heap.get?_push_of_some _ q
  obtain ⟨its, r, ht, hz⟩ := I4.tuple sq
  have hlen : its.toArray.size = xs.length := by rw [List.size_toArray]; exact r.length.symm
  show wpAny (model X.prog X.w) X.A (subscriptTail e (.Slice none none (some c) p2) (.ref a) (.ref s2.heap.objs.size)) (EP X pins σ Q) X.xe { s2 with heap := s2.heap.push { cls := .type "slice", data := .fields #[.none, .none, .int (-1) tk] } }
  refine tail_any (ops := _) ht.typeIs PyProof.Rows.slot_tuple_getitem.lookup (getItem_back ht (Heap.IsSliceOf.new ..) ?_ (by rw [hlen]; exact hz)) (by with_unfolding_all rfl)
  refine ⟨.ref _, _, I4.laid (o := .tup xs.reverse) (fun b ob q => Heap.get?_push_of_some _ q) (Nat.le_refl _) ?_, rfl, q _ (I4.hok.fresh (Nat.le_refl _))⟩
  refine ⟨by rw [List.length_reverse]; exact hz, its.reverse, vals_back r, ?_⟩
  exact IsTup.new _ _
end
end DTu
set_option Elab.async false
set_option linter.all false
set_option maxRecDepth 100000
set_option maxHeartbeats 1000000
/-! The text of a program beside the interpreter's: a look that is run, and what it shows. -/
namespace Pyi
open PySem PySem.Spec PyProof.Rows L2

def Lit.V : Lit → L2.V
  | .non => .non
  | .bl b => .bl b
  | .int i => .int i
  | .str x => .str x
def Lit.const : Lit → Const
  | .non => .none
  | .bl b => .bool b
  | .int i => .int i
  | .str x => .str x
/-- a law's own names: its defs' (by the interpreter's numbers), how their arguments are filled up, its constants -/
structure Lk where
  fn : Nat → Option Str
  dfl : Nat → List (List Lit)
  gl : Str → Option Lit
  gt : Str → Option (List Int)
instance : DecidableEq Lit := fun a b => match a, b with
  | .non, .non => isTrue rfl
  | .bl a, .bl b => if h : a = b then isTrue (by rw [h]) else isFalse fun e => h (Lit.bl.inj e)
  | .int a, .int b => if h : a = b then isTrue (by rw [h]) else isFalse fun e => h (Lit.int.inj e)
  | .str a, .str b => if h : a = b then isTrue (by rw [h]) else isFalse fun e => h (Lit.str.inj e)
  | .non, .bl _ => isFalse nofun
  | .non, .int _ => isFalse nofun
  | .non, .str _ => isFalse nofun
  | .bl _, .non => isFalse nofun
  | .bl _, .int _ => isFalse nofun
  | .bl _, .str _ => isFalse nofun
  | .int _, .non => isFalse nofun
  | .int _, .bl _ => isFalse nofun
  | .int _, .str _ => isFalse nofun
  | .str _, .non => isFalse nofun
  | .str _, .bl _ => isFalse nofun
  | .str _, .int _ => isFalse nofun

/-! ### parts of a text -/
def asConst : Expr → Option Const
  | .Constant c _ _ => some c
  | _ => none
def asName : Expr → Option Str
  | .Name x _ => some x
  | _ => none
def asBin : Expr → Option (Expr × Operator × Expr)
  | .BinOp a o b _ => some (a, o, b)
  | _ => none
def asUn : Expr → Option (UnaryOp × Expr)
  | .UnaryOp o a _ => some (o, a)
  | _ => none
def asBool : Expr → Option (BoolOp × List Expr × Pos)
  | .BoolOp o es p => some (o, es, p)
  | _ => none
def asIf : Expr → Option (Expr × Expr × Expr)
  | .IfExp c a b _ => some (c, a, b)
  | _ => none
def asCmp : Expr → Option (Expr × List CmpOp × List Expr)
  | .Compare a os bs _ => some (a, os, bs)
  | _ => none
def asTup : Expr → Option (List Expr)
  | .Tuple es _ _ => some es
  | _ => none
def asList : Expr → Option (List Expr)
  | .List es _ => some es
  | _ => none
def asSub : Expr → Option (Expr × Expr)
  | .Subscript a i _ => some (a, i)
  | _ => none
def asSlice : Expr → Option (Option Expr × Option Expr × Option Expr)
  | .Slice a b c _ => some (a, b, c)
  | _ => none
def asCall : Expr → Option (Expr × List Expr × List Keyword)
  | .Call f es ks _ => some (f, es, ks)
  | _ => none
def asComp : Expr → Option (Expr × List Comprehension × Scope)
  | .ListComp e gs sc _ => some (e, gs, sc)
  | _ => none
theorem asConst_eq {x : Expr} {c : Const} (h : asConst x = some c) : ∃ k p, x = .Constant c k p := by cases x <;> cases h; exact ⟨_, _, rfl⟩
theorem asName_eq {x : Expr} {c : Str} (h : asName x = some c) : ∃ p, x = .Name c p := by cases x <;> cases h; exact ⟨_, rfl⟩
theorem asBin_eq {x : Expr} {a b : Expr} {o : Operator} (h : asBin x = some (a, o, b)) : ∃ p, x = .BinOp a o b p := by cases x <;> cases h; exact ⟨_, rfl⟩
theorem asUn_eq {x : Expr} {a : Expr} {o : UnaryOp} (h : asUn x = some (o, a)) : ∃ p, x = .UnaryOp o a p := by cases x <;> cases h; exact ⟨_, rfl⟩
theorem asBool_eq {x : Expr} {es : List Expr} {o : BoolOp} {p : Pos} (h : asBool x = some (o, es, p)) : x = .BoolOp o es p := by cases x <;> cases h; rfl
theorem asIf_eq {x : Expr} {c a b : Expr} (h : asIf x = some (c, a, b)) : ∃ p, x = .IfExp c a b p := by cases x <;> cases h; exact ⟨_, rfl⟩
theorem asCmp_eq {x : Expr} {a : Expr} {os : List CmpOp} {bs : List Expr} (h : asCmp x = some (a, os, bs)) : ∃ p, x = .Compare a os bs p := by cases x <;> cases h; exact ⟨_, rfl⟩
theorem asTup_eq {x : Expr} {es : List Expr} (h : asTup x = some es) : ∃ k p, x = .Tuple es k p := by cases x <;> cases h; exact ⟨_, _, rfl⟩
theorem asList_eq {x : Expr} {es : List Expr} (h : asList x = some es) : ∃ p, x = .List es p := by cases x <;> cases h; exact ⟨_, rfl⟩
theorem asSub_eq {x : Expr} {a i : Expr} (h : asSub x = some (a, i)) : ∃ p, x = .Subscript a i p := by cases x <;> cases h; exact ⟨_, rfl⟩
theorem asSlice_eq {x : Expr} {a b c : Option Expr} (h : asSlice x = some (a, b, c)) : ∃ p, x = .Slice a b c p := by cases x <;> cases h; exact ⟨_, rfl⟩
theorem asCall_eq {x : Expr} {f : Expr} {es : List Expr} {ks : List Keyword} (h : asCall x = some (f, es, ks)) : ∃ p, x = .Call f es ks p := by cases x <;> cases h; exact ⟨_, rfl⟩
theorem asComp_eq {x : Expr} {e : Expr} {gs : List Comprehension} {sc : Scope} (h : asComp x = some (e, gs, sc)) : ∃ p, x = .ListComp e gs sc p := by cases x <;> cases h; exact ⟨_, rfl⟩
def notStar : Expr → Bool
  | .Starred _ _ => false
  | _ => true
def notSlice : Expr → Bool
  | .Slice _ _ _ _ => false
  | _ => true
def notSet : Expr → Bool
  | .Set _ _ _ => false
  | _ => true
def notIf : Expr → Bool
  | .IfExp _ _ _ _ => false
  | _ => true
def notComp : Expr → Bool
  | .ListComp _ _ _ _ => false
  | .SetComp _ _ _ _ => false
  | .DictComp _ _ _ _ _ => false
  | _ => true
/-- a test that has a form of its own -/
def ownTest : Expr → Bool
  | .UnaryOp .Not _ _ => true
  | .BoolOp _ _ _ => true
  | .IfExp _ _ _ _ => true
  | .Compare _ _ _ _ => true
  | _ => false
theorem star_cons {x : Expr} {xs : List Expr} {env : PySem.Env} (h : notStar x = true) : starEach (x :: xs) env = (false, eval x env) :: starEach xs env := by
  cases x <;> first | rfl | cases h
theorem star_plain {xs : List Expr} {env : PySem.Env} {pos : Pos} (h : xs.all notStar = true) : (backTo pos (starEach xs env)).any (·.1) = false := by
  induction xs with
  | nil => rfl
  | cons x xs ih =>
    obtain ⟨a, b⟩ := and2 (show (notStar x && xs.all notStar) = true from h)
    rw [star_cons a]
    exact ih b
theorem true_def {x : Expr} {env : PySem.Env} (h : ownTest x = false) (wh : Sem Value) : isTrue x env wh = (do let v ← wh; standAt x.pos; holding [v] (truthy v)) := by
  cases x with
  | UnaryOp o a p => cases o <;> first | rfl | cases h
  | BoolOp _ _ _ => cases h
  | IfExp _ _ _ _ => cases h
  | Compare _ _ _ _ => cases h
  | _ => rfl
theorem sub_plain {x : Expr} (h : notSlice x = true) : PlainIx x := by
  intro o i
  cases x <;> first | rfl | cases h
theorem swaps_no {x : Expr} {t : Option Expr} {l : Nat} {env : PySem.Env} (h : notComp x = true) : swapsWith x t l env = pure false := by
  cases x <;> first | rfl | cases h
theorem fold_no {x : Expr} {env : PySem.Env} (h : notSet x = true) (v : Value) : foldedSetIterable x env v = pure v := by
  cases x <;> first | rfl | cases h
theorem mark_no {x : Expr} {o : CmpOp} (h : notSet x = true) : behindInMarks o x = false := by
  cases x <;> first | rfl | cases h

/-! ### names -/
def dbg (x : Str) : Bool := decide (x = ("__debug__" : Str)) || decide (x = ("__classdict__" : Str))
def visB (sc : Scope) (x : Str) : Bool := match sc.names.lookup x with
  | some .local => true
  | some .cell => true
  | some .free => true
  | _ => false
def gloB (sc : Scope) (x : Str) : Bool := decide (sc.names.lookup x = some .globalImplicit) && !dbg x
def locB (sc : Scope) (x : Str) : Bool := match sc.names.lookup x with
  | some .local => true
  | some .cell => true
  | _ => false
def biN : Bi → Str
  | .len => "len" | .int_ => "int" | .abs => "abs" | .str_ => "str" | .repr => "repr" | .tuple_ => "tuple" | .sum => "sum" | .all_ => "all" | .any_ => "any" | .max_ => "max" | .min_ => "min"
def tyN : Ty → Str
  | .int => "int" | .bool => "bool" | .str => "str" | .tuple => "tuple" | .list => "list" | .own _ => ""
def isBuiltTy : Ty → Bool
  | .own _ => false
  | _ => true
/-- the name of a slot -/
def nameIs (N : List Str) (sc : Scope) (i : Nat) (x : Expr) : Bool := match asName x with
  | some y => decide (N[i]? = some y) && visB sc y && !dbg y
  | none => false
/-- a name that is not one of the def's -/
def gnameIs (sc : Scope) (y : Str) (x : Expr) : Bool := match asName x with
  | some z => decide (z = y) && gloB sc y
  | none => false
mutual
def chkT (N : List Str) (ow : Scope) (t : Tg) (x : Expr) : Bool := match t with
  | .v i => match asName x with
    | some y => decide (N[i]? = some y) && locB ow y
    | none => false
  | .t l => match asTup x with
    | some es => es.all notStar && chkTs N ow l es
    | none => false
def chkTs (N : List Str) (ow : Scope) (ts : List Tg) (xs : List Expr) : Bool := match ts with
  | [] => match xs with | [] => true | _ => false
  | t :: ts => match xs with | x :: xs => chkT N ow t x && chkTs N ow ts xs | [] => false
end
/-- the names of a comprehension's target with their slots -/
def ownOf (N : List Str) (is : List Nat) : List (Str × Nat) := is.map fun i => (N.getD i "", i)
/-- -1 -/
def minusOne (x : Expr) : Bool := match asUn x with
  | some (o, p) => decide (o = .USub) && (match asConst p with
    | some c => decide (c = .int 1)
    | none => false)
  | none => false
def asDictComp : Expr → Option (Expr × Expr × List Comprehension × Scope)
  | .DictComp k v gs sc _ => some (k, v, gs, sc)
  | _ => none
theorem asDictComp_eq {x k v : Expr} {gs : List Comprehension} {sc : Scope} (h : asDictComp x = some (k, v, gs, sc)) : ∃ p, x = .DictComp k v gs sc p := by cases x <;> cases h; exact ⟨_, rfl⟩
/-- a method's call -/
def asMeth : Expr → Option (Expr × Str × Pos × List Expr × List Keyword × Pos)
  | .Call f es ks p => match f with
    | .Attribute o n ap => some (o, n, ap, es, ks, p)
    | _ => none
  | _ => none
theorem asMeth_eq {x o : Expr} {n : Str} {ap p : Pos} {es : List Expr} {ks : List Keyword} (h : asMeth x = some (o, n, ap, es, ks, p)) : x = .Call (.Attribute o n ap) es ks p := by
  cases x with
  | Call f es ks p => cases f <;> cases h; rfl
  | _ => cases h
section
variable (L : Lk) (N : List Str)
mutual
def chkE (e : E) (sc ow : Scope) (x : Expr) : Bool := match e with
  | .lit l => match asConst x with
    | some c => decide (c = l.const)
    | none => false
  | .glb y l => gnameIs sc y x && decide (L.gl y = some l)
  | .var i => nameIs N sc i x
  | .bin o a b => match asBin x with
    | some (p, o', q) => decide (o' = opB o) && chkE a sc ow p && chkE b sc ow q
    | none => false
  | .neg a => match asUn x with
    | some (o, p) => decide (o = .USub) && chkE a sc ow p
    | none => false
  | .not_ a => match asUn x with
    | some (o, p) => decide (o = .Not) && notIf p && chkE a sc ow p
    | none => false
  | .and_ a b => match asBool x with
    | some (o, es, pos) => match es with
      | p :: q :: r => decide (o = .And) && notIf p && chkE a sc ow p && (match r with
        | [] => notIf q && chkE b sc ow q
        | _ :: _ => chkE b sc ow (.BoolOp .And (q :: r) pos))
      | _ => false
    | none => false
  | .or_ a b => match asBool x with
    | some (o, es, pos) => match es with
      | p :: q :: r => decide (o = .Or) && notIf p && chkE a sc ow p && (match r with
        | [] => notIf q && chkE b sc ow q
        | _ :: _ => chkE b sc ow (.BoolOp .Or (q :: r) pos))
      | _ => false
    | none => false
  | .ite c a b => match asIf x with
    | some (p, q, r) => notIf p && chkE c sc ow p && chkE a sc ow q && chkE b sc ow r
    | none => false
  | .cmp o a b => match asCmp x with
    | some (p, os, qs) => match os, qs with
      | [o'], [q] => decide (o' = opC o) && notSet q && chkE a sc ow p && chkE b sc ow q
      | _, _ => false
    | none => false
  | .chn o o2 a b c => match asCmp x with
    | some (p, os, qs) => match os, qs with
      | [o', o2'], [q, r] => decide (o' = opC o) && decide (o2' = opC o2) && notSet r && chkE a sc ow p && chkE b sc ow q && chkE c sc ow r
      | _, _ => false
    | none => false
  | .tup es => match asTup x with
    | some xs => decide (xs.length ≤ 1000) && chkEs es sc ow xs
    | none => false
  | .idx a i => match asSub x with
    | some (p, q) => notSlice q && chkE a sc ow p && chkE i sc ow q
    | none => false
  | .slc a lo hi => match asSub x with
    | some (p, q) => match asSlice q with
      | some (l, u, st) => st.isNone && chkE a sc ow p && chkO lo sc ow l && chkO hi sc ow u
      | none => false
    | none => false
  | .rev a => match asSub x with
    | some (p, q) => match asSlice q with
      | some (l, u, st) => match st with
        | some c => l.isNone && u.isNone && minusOne c && chkE a sc ow p
        | none => false
      | none => false
    | none => false
  | .call f es ds => match asCall x with
    | some (p, xs, ks) => ks.isEmpty && (match L.fn f with
      | some nm => gnameIs sc nm p
      | none => false) && decide (ds ∈ L.dfl f) && xs.all notStar && chkEs es sc ow xs
    | none => false
  | .bi b es => match asCall x with
    | some (p, xs, ks) => ks.isEmpty && gnameIs sc (biN b) p && !xs.isEmpty && xs.all notStar && chkEs es sc ow xs
    | none => false
  | .isi a t => match asCall x with
    | some (p, xs, ks) => match xs with
      | [y, z] => ks.isEmpty && gnameIs sc "isinstance" p && isBuiltTy t && gnameIs sc (tyN t) z && notStar y && chkE a sc ow y
      | _ => false
    | none => false
  | .fr f => chkF f sc ow x
  | .mk f => chkF f sc ow x
  | .olen i => match asCall x with
    | some (p, xs, ks) => match xs with
      | [y] => ks.isEmpty && gnameIs sc "len" p && nameIs N sc i y
      | _ => false
    | none => false
  | .oidx i e => match asSub x with
    | some (p, q) => notSlice q && nameIs N sc i p && chkE e sc ow q
    | none => false
  | .oemp i pos => false
  | .lenDC k tg it => match asCall x with
    | some (p, xs, ks) => match xs with
      | [y] => ks.isEmpty && gnameIs sc "len" p && (match asDictComp y with
        | some (kx, vx, gs, scp) => match gs with
          | [⟨tx, ix, ifs, as⟩] => decide (as = 0) && ifs.isEmpty && decide (asConst vx = some (.bool true)) && notSet ix && chkIt it sc ow ix && blkC N sc scp (ownOf N tg.slots) && chkT N scp tg tx && chkE k (relS scp sc) scp kx
          | _ => false
        | none => false)
      | _ => false
    | none => false
  | .lenSet f => false
def chkEs (es : List E) (sc ow : Scope) (xs : List Expr) : Bool := match es with
  | [] => match xs with | [] => true | _ => false
  | e :: es => match xs with | x :: xs => notStar x && chkE e sc ow x && chkEs es sc ow xs | [] => false
def chkO (o : Option E) (sc ow : Scope) (x : Option Expr) : Bool := match o with
  | none => match x with | none => true | _ => false
  | some e => match x with | some x => chkE e sc ow x | none => false
def chkF (f : FE) (sc ow : Scope) (x : Expr) : Bool := match f with
  | .lst es => match asList x with
    | some xs => decide (xs.length ≤ 1000) && chkEs es sc ow xs
    | none => false
  | .of e => match asCall x with
    | some (p, xs, ks) => match xs with
      | [y] => ks.isEmpty && gnameIs sc "list" p && notStar y && chkE e sc ow y
      | _ => false
    | none => false
  | .ofIt it => match it with
    | .rng1 b => match asCall x with
      | some (p, xs, ks) => match xs with
        | [y] => match asCall y with
          | some (p2, ys, ks2) => match ys with
            | [z] => ks.isEmpty && ks2.isEmpty && gnameIs sc "list" p && gnameIs sc "range" p2 && notStar z && chkE b sc ow z
            | _ => false
          | none => false
        | _ => false
      | none => false
    | .rng2 a b => match asCall x with
      | some (p, xs, ks) => match xs with
        | [y] => match asCall y with
          | some (p2, ys, ks2) => match ys with
            | [z, z2] => ks.isEmpty && ks2.isEmpty && gnameIs sc "list" p && gnameIs sc "range" p2 && notStar z && notStar z2 && chkE a sc ow z && chkE b sc ow z2
            | _ => false
          | none => false
        | _ => false
      | none => false
    | _ => false
  | .items i => match asCall x with
    | some (p, xs, ks) => match xs with
      | [y] => ks.isEmpty && gnameIs sc "list" p && (match asMeth y with
        | some (o, n, ap, es, ks2, cp) => es.isEmpty && ks2.isEmpty && decide (n = ("items" : Str)) && (ap.endLine == cp.line) && nameIs N sc i o
        | none => false)
      | _ => false
    | none => false
  | .rep f e => false
  | .cat a b => match asBin x with
    | some (p, o, q) => decide (o = .Add) && chkE a sc ow p && chkE b sc ow q
    | none => false
  | .comp e tg it cs => match asComp x with
    | some (ex, gs, scp) => match gs with
      | [⟨tx, ix, ifs, as⟩] => decide (as = 0) && notSet ix && chkIt it sc ow ix && blkC N sc scp (ownOf N tg.slots) && chkT N scp tg tx && chkC cs (relS scp sc) scp ifs && chkE e (relS scp sc) scp ex
      | _ => false
    | none => false
  | .comp2 e tg it tg2 it2 cs => false
def chkC (cs : List E) (sc ow : Scope) (xs : List Expr) : Bool := match cs with
  | [] => match xs with | [] => true | _ => false
  | c :: cs => match cs with
    | [] => match xs with
      | [x] => notIf x && chkE c sc ow x
      | _ => false
    | _ => false
def chkIt (it : It) (sc ow : Scope) (x : Expr) : Bool := match it with
  | .seq e => chkE e sc ow x
  | .rng1 b => match asCall x with
    | some (p, xs, ks) => match xs with
      | [z] => ks.isEmpty && gnameIs sc "range" p && notStar z && chkE b sc ow z
      | _ => false
    | none => false
  | .rng2 a b => match asCall x with
    | some (p, xs, ks) => match xs with
      | [z, z2] => ks.isEmpty && gnameIs sc "range" p && notStar z && notStar z2 && chkE a sc ow z && chkE b sc ow z2
      | _ => false
    | none => false
  | .enum e => false
  | .zip a b => false
end
end
end Pyi
set_option Elab.async false
set_option linter.all false
set_option maxRecDepth 100000
set_option maxHeartbeats 2000000
/-! The interpreter is right: expressions. -/
namespace Pyi
open PySem PySem.Spec PyProof.Rows L2

/-- what a call of the def f promises, by the interpreter at the depth k -/
def spD (W : Wd) (U : Nat → Option FDef) (k f : Nat) : Sp := fun xs H Q E => ∃ F μ h args, RSt W F μ H h ∧ RVs W F μ H args xs ∧
  Aft (callD U k f args h) (fun v h' => ∀ F' μ' H' x, RSt W F' μ' H' h' → Stp F μ H F' μ' H' → RV W F' μ' H' v x → Q x H')
    (fun c v h' => ∀ F' μ' H' d x, RSt W F' μ' H' h' → Stp F μ H F' μ' H' → H d = none → ¬ F' d → d ∉ μ' → H' d = some (.xd [("value", x)]) → RV W F' μ' H' v x → E (.ref (W.ca c)) (some d) H')
def biNames : List Str := ["len", "int", "abs", "str", "repr", "tuple", "sum", "all", "any", "max", "min", "isinstance", "range", "list", "enumerate", "zip", "set", "bool"]
/-- what the module says of a law's own names -/
structure Hyp (U : Nat → Option FDef) (W : Wd) (L : Lk) (k : Nat) : Prop where
  call : ∀ f nm, L.fn f = some nm → ∃ fa fd ps, W.mg nm = some (.ref fa) ∧ PySem.W.keepIn W.K (.ref fa) = true ∧ (∀ dl ∈ L.dfl f, ∃ ds, Binds W.K fd ps ds ∧ Vals (dl.map Lit.V) ds) ∧
    Fok W.P W.w W.K W.mg W.base k fa fd ps (spD W U k f)
  glob : ∀ x l, L.gl x = some l → ∃ u, W.mg x = some u ∧ RelV l.V u
  bi : ∀ x ∈ biNames, W.mg x = none
  tupk : ∀ x ns, L.gt x = some ns → ∃ a, W.mg x = some (.ref a) ∧ ∀ H, SqT W.K H a (ns.map V.int)
/-- where the text stands -/
structure Gd (W : Wd) (k : Nat) (N : List Str) (sc ow : Scope) (X : Cx) (Z : WX) : Prop where
  eP : X.prog = W.P
  ew : X.w = W.w
  eK : X.K = W.K
  emg : X.mg = W.mg
  ebase : X.base = W.base
  eN : X.N = N
  nd : X.N.Nodup
  sc : X.env.scope = sc
  calm : X.calm = true
  st : ∀ x, locB ow x = true → Loc X.env.scope x ∧ (X.fn x = true ∨ X.env.scope.names.lookup x = some .local)
  rm : Rm k X.A
  tk : Takes X Z
structure Snd (W : Wd) (X : Cx) (Z : WX) (m : Ev Val) (x : Expr) : Prop where
  pe : PE X x (RD W Z m)
  pt : notIf x = true → PT X x (RDb W Z m)
  pw : (asBool x).isSome = true → PW X x (RDb W Z m)

section
variable {U : Nat → Option FDef} {W : Wd} {L : Lk} {k : Nat} {N : List Str} {sc ow : Scope} {X : Cx} {Z : WX}
theorem Gd.units (g : Gd W k N sc ow X Z) : X.A.units + 64 < cLine := g.rm.rm.units
theorem Gd.gl (g : Gd W k N sc ow X Z) {y : Str} {x : Expr} (h : gnameIs sc y x = true) : ∃ p, x = .Name y p ∧ Gl X y ∧ (y == ("__debug__" : Str)) = false := by
  unfold gnameIs at h
  cases e : asName x with
  | none =>
    rw [e] at h
    cases h
  | some z =>
    rw [e] at h
    obtain ⟨p, rfl⟩ := asName_eq e
    obtain ⟨h1, h2⟩ := and2 h
    have h1' : z = y := of_decide_eq_true h1
    subst h1'
    obtain ⟨h3, h4⟩ := and2 (show (decide (sc.names.lookup z = some .globalImplicit) && !dbg z) = true from h2)
    have h5 : dbg z = false := by simpa using h4
    unfold dbg at h5
    obtain ⟨h6, _⟩ := Bool.or_eq_false_iff.mp h5
    refine ⟨p, rfl, ?_, ?_⟩
    · show X.env.kindOf z = some .globalImplicit
      unfold PySem.Env.kindOf
      rw [g.sc]
      exact of_decide_eq_true h3
    · exact beq_eq_false_iff_ne.mpr (of_decide_eq_false h6)
theorem Gd.vis (g : Gd W k N sc ow X Z) {i : Nat} {x : Expr} (h : nameIs N sc i x = true) : ∃ y p, x = .Name y p ∧ X.N[i]? = some y ∧ Vis X.env.scope y ∧ (y == ("__debug__" : Str)) = false ∧ (y == ("__classdict__" : Str)) = false := by
  unfold nameIs at h
  cases e : asName x with
  | none =>
    rw [e] at h
    cases h
  | some z =>
    rw [e] at h
    obtain ⟨p, rfl⟩ := asName_eq e
    obtain ⟨h1, h2⟩ := and2 h
    obtain ⟨h0, h1⟩ := and2 h1
    have h5 : dbg z = false := by simpa using h2
    unfold dbg at h5
    obtain ⟨h6, h7⟩ := Bool.or_eq_false_iff.mp h5
    refine ⟨z, p, rfl, ?_, ?_, beq_eq_false_iff_ne.mpr (of_decide_eq_false h6), beq_eq_false_iff_ne.mpr (of_decide_eq_false h7)⟩
    · rw [g.eN]
      exact of_decide_eq_true h0
    · unfold visB at h1
      rw [g.sc]
      unfold Vis
      cases hl : sc.names.lookup z with
      | none =>
        rw [hl] at h1
        cases h1
      | some kd =>
        rw [hl] at h1
        cases kd with
        | «local» => exact .inl rfl
        | cell => exact .inr (.inl rfl)
        | free => exact .inr (.inr rfl)
        | globalExplicit => cases h1
        | globalImplicit => cases h1
theorem Gd.mgN (hy : Hyp U W L k) (g : Gd W k N sc ow X Z) {x : Str} (h : x ∈ biNames) : X.mg x = none := by rw [g.emg]; exact hy.bi x h

/-! ### values by a reading -/
theorem Snd.of {m : Ev Val} {x : Expr} (h : PE X x (RD W Z m)) (ho : ownTest x = false) : Snd W X Z m x where
  pe := h
  pt := fun _ => by
    refine PT.imp (pt_val h (true_def ho)) fun σ H Q q => ?_
    obtain ⟨F, μ, env, hh, r, e, a⟩ := q
    show RD W Z m σ H fun v H1 => ∃ c, v = .bl c ∧ Q c H1
    refine rd_step r e a fun v h' F' μ' H' y r1 e1 s1 v1 a1 => ?_
    obtain ⟨b, eb, kk⟩ := aft_opt a1
    cases v with
    | bl c =>
      have ec : c = b := Option.some.inj eb
      exact ⟨b, by rw [← ec]; exact v1, kk F' μ' H' b r1 s1 rfl⟩
    | _ => cases eb
  pw := fun h => by
    cases x with
    | BoolOp _ _ _ => cases ho
    | _ => cases h
theorem rd_ret {α β : Type} {R : Hp → (Addr → Prop) → List Addr → Hp → α → β → Prop} {m : Ev α} {F : Addr → Prop} {μ : List Addr} {H : Hp} {env : Env} {σ : L2.St} {h h' : Hs} {v : α} {x : β} {Q : β → Hp → Prop}
    (r : RSt W F μ H h) (e : REnv W F μ H env σ) (em : m env h = .ok v h) (hR : R H F μ H v x) (a : Aft (m env h) (fun v h' => ∀ F' μ' H' x, RSt W F' μ' H' h' → Stp F μ H F' μ' H' → R H F' μ' H' v x → Q x H') (Exq W Z F μ H σ)) : Q x H := by
  rw [em] at a
  exact a F μ H x r Stp.refl hR
theorem lit_rv {F : Addr → Prop} {μ : List Addr} {H : Hp} (l : Lit) : RV W F μ H l.val l.V := by cases l <;> rfl
theorem pe_lit (l : Lit) {kk : Nat} {p : Pos} : PE X (.Constant l.const kk p) (tC l.V) := by
  cases l with
  | non => exact pe_non
  | bl b => exact pe_bl
  | int i => exact pe_int
  | str x => exact pe_str
theorem snd_lit (l : Lit) {x : Expr} {c : Const} (e : asConst x = some c) (ec : c = l.const) : Snd W X Z (fun _ h => .ok l.val h) x := by
  obtain ⟨kk, p, rfl⟩ := asConst_eq e
  subst ec
  refine .of (PE.imp (pe_lit l) fun σ H Q q => ?_) rfl
  obtain ⟨F, μ, env, h, r, e, a⟩ := q
  exact a F μ H _ r Stp.refl (lit_rv l)
theorem bi_boot (b : Bi) : bootBuiltins (biN b) = some (biV b) := by cases b <;> decide +kernel
theorem bi_mem (b : Bi) : biN b ∈ biNames := by cases b <;> decide +kernel
/-- a call of a built-in function or class by its name -/
theorem pe_bi {b : Bi} {r : List L2.V → Hp → VK → Prop} {e : Expr} {es : List Expr} {t : TA} {p pos : Pos} (hc : CallR X (biV b) r) (hg : Gl X (biN b)) (hm : X.mg (biN b) = none) (ha : PA X (e :: es) t) (hst : starEach (e :: es) X.env = (false, eval e X.env) :: starEach es X.env)
    (hpl : (backTo pos (starEach es X.env)).any (·.1) = false) : PE X (.Call (.Name (biN b) p) (e :: es) [] pos) (tCB r t) := by
  have hv := bi_boot b
  cases b with
  | len => exact pe_callB hc hg hm hv ha (by decide) (by decide) hst hpl
  | int_ => exact pe_callTy hc hg hm hv ha (by decide) (by decide) hst hpl
  | abs => exact pe_callB hc hg hm hv ha (by decide) (by decide) hst hpl
  | str_ => exact pe_callTy hc hg hm hv ha (by decide) (by decide) hst hpl
  | repr => exact pe_callB hc hg hm hv ha (by decide) (by decide) hst hpl
  | tuple_ => exact pe_callTy hc hg hm hv ha (by decide) (by decide) hst hpl
  | sum => exact pe_callB hc hg hm hv ha (by decide) (by decide) hst hpl
  | all_ => exact pe_callB hc hg hm hv ha (by decide) (by decide) hst hpl
  | any_ => exact pe_callB hc hg hm hv ha (by decide) (by decide) hst hpl
  | max_ => exact pe_callB hc hg hm hv ha (by decide) (by decide) hst hpl
  | min_ => exact pe_callB hc hg hm hv ha (by decide) (by decide) hst hpl

/-! ### the parts put together -/
theorem Out.assoc {α β γ : Type} {m : Out α} {f : α → Hs → Out β} {g : β → Hs → Out γ} : (m.bind f).bind g = m.bind fun x h => (f x h).bind g := by cases m <;> rfl
/-- a test whose parts are run -/
theorem rdb_step {m : Ev Val} {γ : Type} {f : Bool → Hs → Out γ} {F : Addr → Prop} {μ : List Addr} {H : Hp} {env : Env} {σ : L2.St} {h : Hs} {Q : Bool → Hp → Prop} {Good : γ → Hs → Prop} (r : RSt W F μ H h) (e : REnv W F μ H env σ)
    (q : Aft ((m env h).bind fun x h => (ofOpt (asB x) h).bind f) Good (Exq W Z F μ H σ))
    (k : ∀ b h' F' μ' H', RSt W F' μ' H' h' → REnv W F' μ' H' env σ → Stp F μ H F' μ' H' → Aft (f b h') Good (Exq W Z F' μ' H' σ) → Q b H') : RDb W Z m σ H Q := by
  rw [← Out.assoc] at q
  have st := rd_step (R := fun _ _ _ _ (b c : Bool) => b = c) (m := fun env h => (m env h).bind fun x h => ofOpt (asB x) h) (Q := Q) r e q fun b h' F' μ' H' c r1 e1 s1 hc a1 => by
    subst hc
    exact k b h' F' μ' H' r1 e1 s1 a1
  exact st
/-- a value that is a truth, as a test -/
theorem rdb_of {m : Ev Val} {f : Ev Bool} {σ : L2.St} {H : Hp} {Q : Bool → Hp → Prop} (hm : ∀ env h, m env h = (f env h).bind fun b h => .ok (.bl b) h) (q : RDb W Z m σ H Q) :
    RDg W Z (fun _ _ _ _ b c => b = c) f σ H Q := by
  obtain ⟨F, μ, env, h, r, e, a⟩ := q
  refine ⟨F, μ, env, h, r, e, ?_⟩
  have a' : Aft ((m env h).bind fun x h => ofOpt (asB x) h) (fun v h' => ∀ F' μ' H' x, RSt W F' μ' H' h' → Stp F μ H F' μ' H' → v = x → Q x H') (Exq W Z F μ H σ) := a
  rw [hm env h] at a'
  cases hf : f env h with
  | ok b h1 =>
    rw [hf] at a'
    exact a'
  | exc c v h1 =>
    rw [hf] at a'
    exact a'
  | bad =>
    rw [hf] at a'
    exact a'
theorem rd_of_b {m : Ev Val} {σ : L2.St} {H : Hp} {Q : VK} (q : RD W Z m σ H Q) (hb : ∀ env h v h', m env h = .ok v h' → ∃ b, v = .bl b) : RDb W Z m σ H fun b H1 => Q (.bl b) H1 := by
  obtain ⟨F, μ, env, h, r, e, a⟩ := q
  refine ⟨F, μ, env, h, r, e, ?_⟩
  show Aft ((m env h).bind fun x h => ofOpt (asB x) h) _ _
  cases hf : m env h with
  | ok v h1 =>
    obtain ⟨b, rfl⟩ := hb env h v h1 hf
    rw [hf] at a
    intro F' μ' H' c r1 s1 ec
    have ec' : b = c := ec
    subst ec'
    exact a F' μ' H' _ r1 s1 rfl
  | exc c v h1 =>
    rw [hf] at a
    exact a
  | bad =>
    rw [hf] at a
    exact a
theorem snd_bin {ma mb : Ev Val} {p q : Expr} (g : Gd W k N sc ow X Z) (o : BOp) (ha : Snd W X Z ma p) (hb : Snd W X Z mb q) (pos : Pos) :
    Snd W X Z (fun env h => (ma env h).bind fun x h => (mb env h).bind fun y h => ofOpt (binop o x y) h) (.BinOp p (opB o) q pos) :=
  .of (PE.imp (pe_op (op_B g.eK o) ha.pe hb.pe) fun σ H Q q => rd_two q) rfl
theorem snd_neg {ma : Ev Val} {p : Expr} (ha : Snd W X Z ma p) (pos : Pos) : Snd W X Z (fun env h => (ma env h).bind fun x h => ofOpt ((asI x).map fun i => Val.int (-i)) h) (.UnaryOp .USub p pos) := by
  refine .of (PE.imp (pe_un un_neg ha.pe) fun σ H Q q => ?_) rfl
  obtain ⟨F, μ, env, h, r, e, a⟩ := q
  show RD W Z ma σ H fun x H1 => rU (fun i => .int (-i)) x H1 Q
  refine rd_step r e a fun v h1 F' μ' H' y r1 e1 s1 v1 a1 => ?_
  obtain ⟨u, eu, kk⟩ := aft_opt a1
  cases v with
  | int i =>
    cases eu
    have ey : y = .int i := v1
    exact ⟨i, ey, kk F' μ' H' _ r1 s1 rfl⟩
  | _ => cases eu
theorem snd_not {ma : Ev Val} {p : Expr} (ha : Snd W X Z ma p) (hp : notIf p = true) (pos : Pos) :
    Snd W X Z (fun env h => (ma env h).bind fun x h => (ofOpt (asB x) h).bind fun b h => .ok (Val.bl (!b)) h) (.UnaryOp .Not p pos) := by
  refine ⟨PE.imp (pe_not ha.pe) fun σ H Q q => ?_, fun _ => PT.imp (pt_not (ha.pt hp)) fun σ H Q q => ?_, fun z => by cases z⟩
  · obtain ⟨F, μ, env, h, r, e, a⟩ := q
    show RD W Z ma σ H fun x H1 => ∃ c, x = .bl c ∧ Q (.bl (!c)) H1
    refine rd_step r e a fun v h1 F' μ' H' y r1 e1 s1 v1 a1 => ?_
    cases v with
    | bl b =>
      have ey : y = .bl b := v1
      exact ⟨b, ey, a1 F' μ' H' _ r1 s1 rfl⟩
    | _ => exact a1.elim
  · have q1 := rdb_of (f := fun env h => (ma env h).bind fun x h => (ofOpt (asB x) h).bind fun b h => .ok (!b) h) (fun env h => by
      cases ma env h with
      | ok v h1 => cases v <;> rfl
      | _ => rfl) q
    obtain ⟨F, μ, env, h, r, e, a⟩ := q1
    show RDb W Z ma σ H fun c H1 => Q (!c) H1
    exact rdb_step r e a fun b h1 F' μ' H' r1 e1 s1 a1 => a1 F' μ' H' (!b) r1 s1 rfl
/-- and, or: the interpreter's -/
def andM (ma mb : Ev Val) : Ev Val := fun env h => (ma env h).bind fun x h => (ofOpt (asB x) h).bind fun c h =>
  if c then (mb env h).bind fun y h => (ofOpt (asB y) h).bind fun d h => .ok (.bl d) h else .ok (.bl false) h
def orM (ma mb : Ev Val) : Ev Val := fun env h => (ma env h).bind fun x h => (ofOpt (asB x) h).bind fun c h =>
  if c then .ok (.bl true) h else (mb env h).bind fun y h => (ofOpt (asB y) h).bind fun d h => .ok (.bl d) h
theorem b_of {m : Ev Val} {F : Addr → Prop} {μ : List Addr} {H : Hp} {env : Env} {σ : L2.St} {h : Hs} {Q : VK} (r : RSt W F μ H h) (e : REnv W F μ H env σ)
    (a : Aft ((m env h).bind fun y h => (ofOpt (asB y) h).bind fun d h => .ok (Val.bl d) h) (fun v h' => ∀ F' μ' H' x, RSt W F' μ' H' h' → Stp F μ H F' μ' H' → RV W F' μ' H' v x → Q x H') (Exq W Z F μ H σ)) : RD W Z m σ H Q := by
  refine rd_step r e a fun v h1 F' μ' H' y r1 e1 s1 v1 a1 => ?_
  cases v with
  | bl b => exact a1 F' μ' H' y r1 s1 v1
  | _ => exact a1.elim
theorem bb_of {m : Ev Val} {F : Addr → Prop} {μ : List Addr} {H : Hp} {env : Env} {σ : L2.St} {h : Hs} {Q : Bool → Hp → Prop} (r : RSt W F μ H h) (e : REnv W F μ H env σ)
    (a : Aft ((m env h).bind fun y h => (ofOpt (asB y) h).bind fun d h => .ok d h) (fun v h' => ∀ F' μ' H' x, RSt W F' μ' H' h' → Stp F μ H F' μ' H' → v = x → Q x H') (Exq W Z F μ H σ)) : RDb W Z m σ H Q :=
  rdb_step r e a fun b h1 F' μ' H' r1 e1 s1 a1 => a1 F' μ' H' b r1 s1 rfl
theorem and_b {ma mb : Ev Val} {σ : L2.St} {H : Hp} {Q : Bool → Hp → Prop} (q : RDb W Z (andM ma mb) σ H Q) : tAnd (RDb W Z ma) (RDb W Z mb) σ H Q := by
  have q1 := rdb_of (f := fun env h => (ma env h).bind fun x h => (ofOpt (asB x) h).bind fun c h =>
      if c then (mb env h).bind fun y h => (ofOpt (asB y) h).bind fun d h => .ok d h else .ok false h) (fun env h => by
    unfold andM
    cases ma env h with
    | ok v h1 =>
      cases v with
      | bl c =>
        cases c with
        | true =>
          show (mb env h1).bind _ = ((mb env h1).bind _).bind _
          cases mb env h1 with
          | ok v h2 => cases v <;> rfl
          | _ => rfl
        | false => rfl
      | _ => rfl
    | _ => rfl) q
  obtain ⟨F, μ, env, h, r, e, a⟩ := q1
  show RDb W Z ma σ H fun c H1 => if c = true then RDb W Z mb σ H1 Q else Q false H1
  refine rdb_step r e a fun b h1 F' μ' H' r1 e1 s1 a1 => ?_
  cases b with
  | true =>
    rw [if_pos rfl] at a1 ⊢
    refine bb_of r1 e1 ?_
    cases hm : mb env h1 with
    | ok v h2 =>
      rw [hm] at a1
      cases v with
      | bl d => exact fun F2 μ2 H2 x r2 s2 ex => a1 F2 μ2 H2 x r2 (s1.trans s2) ex
      | _ => exact a1
    | exc c v h2 =>
      rw [hm] at a1
      exact a1
    | bad =>
      rw [hm] at a1
      exact a1
  | false =>
    rw [if_neg Bool.false_ne_true] at a1 ⊢
    exact a1 F' μ' H' false r1 s1 rfl
theorem or_b {ma mb : Ev Val} {σ : L2.St} {H : Hp} {Q : Bool → Hp → Prop} (q : RDb W Z (orM ma mb) σ H Q) : tOr (RDb W Z ma) (RDb W Z mb) σ H Q := by
  have q1 := rdb_of (f := fun env h => (ma env h).bind fun x h => (ofOpt (asB x) h).bind fun c h =>
      if c then .ok true h else (mb env h).bind fun y h => (ofOpt (asB y) h).bind fun d h => .ok d h) (fun env h => by
    unfold orM
    cases ma env h with
    | ok v h1 =>
      cases v with
      | bl c =>
        cases c with
        | false =>
          show (mb env h1).bind _ = ((mb env h1).bind _).bind _
          cases mb env h1 with
          | ok v h2 => cases v <;> rfl
          | _ => rfl
        | true => rfl
      | _ => rfl
    | _ => rfl) q
  obtain ⟨F, μ, env, h, r, e, a⟩ := q1
  show RDb W Z ma σ H fun c H1 => if c = true then Q true H1 else RDb W Z mb σ H1 Q
  refine rdb_step r e a fun b h1 F' μ' H' r1 e1 s1 a1 => ?_
  cases b with
  | false =>
    rw [if_neg Bool.false_ne_true] at a1 ⊢
    refine bb_of r1 e1 ?_
    cases hm : mb env h1 with
    | ok v h2 =>
      rw [hm] at a1
      cases v with
      | bl d => exact fun F2 μ2 H2 x r2 s2 ex => a1 F2 μ2 H2 x r2 (s1.trans s2) ex
      | _ => exact a1
    | exc c v h2 =>
      rw [hm] at a1
      exact a1
    | bad =>
      rw [hm] at a1
      exact a1
  | true =>
    rw [if_pos rfl] at a1 ⊢
    exact a1 F' μ' H' true r1 s1 rfl
theorem and_v {ma mb : Ev Val} {σ : L2.St} {H : Hp} {Q : VK} (q : RD W Z (andM ma mb) σ H Q) : tAndV (RD W Z ma) (RD W Z mb) σ H Q := by
  obtain ⟨F, μ, env, h, r, e, a⟩ := q
  show RD W Z ma σ H fun x H1 => ∃ c, x = .bl c ∧ if c = true then RD W Z mb σ H1 Q else Q (.bl false) H1
  refine rd_step r e a fun v h1 F' μ' H' y r1 e1 s1 v1 a1 => ?_
  cases v with
  | bl c =>
    have ey : y = .bl c := v1
    refine ⟨c, ey, ?_⟩
    cases c with
    | true =>
      rw [if_pos rfl]
      refine b_of r1 e1 ?_
      have a2 : Aft ((mb env h1).bind fun y h => (ofOpt (asB y) h).bind fun d h => .ok (Val.bl d) h) _ (Exq W Z F' μ' H' σ) := a1
      cases hm : mb env h1 with
      | ok v h2 =>
        rw [hm] at a2
        cases v with
        | bl d => exact fun F2 μ2 H2 x r2 s2 ex => a2 F2 μ2 H2 x r2 (s1.trans s2) ex
        | _ => exact a2
      | exc c v h2 =>
        rw [hm] at a2
        exact a2
      | bad =>
        rw [hm] at a2
        exact a2
    | false =>
      rw [if_neg Bool.false_ne_true]
      exact a1 F' μ' H' _ r1 s1 rfl
  | _ => exact a1.elim
theorem or_v {ma mb : Ev Val} {σ : L2.St} {H : Hp} {Q : VK} (q : RD W Z (orM ma mb) σ H Q) : tOrV (RD W Z ma) (RD W Z mb) σ H Q := by
  obtain ⟨F, μ, env, h, r, e, a⟩ := q
  show RD W Z ma σ H fun x H1 => ∃ c, x = .bl c ∧ if c = true then Q (.bl true) H1 else RD W Z mb σ H1 Q
  refine rd_step r e a fun v h1 F' μ' H' y r1 e1 s1 v1 a1 => ?_
  cases v with
  | bl c =>
    have ey : y = .bl c := v1
    refine ⟨c, ey, ?_⟩
    cases c with
    | false =>
      rw [if_neg Bool.false_ne_true]
      refine b_of r1 e1 ?_
      have a2 : Aft ((mb env h1).bind fun y h => (ofOpt (asB y) h).bind fun d h => .ok (Val.bl d) h) _ (Exq W Z F' μ' H' σ) := a1
      cases hm : mb env h1 with
      | ok v h2 =>
        rw [hm] at a2
        cases v with
        | bl d => exact fun F2 μ2 H2 x r2 s2 ex => a2 F2 μ2 H2 x r2 (s1.trans s2) ex
        | _ => exact a2
      | exc c v h2 =>
        rw [hm] at a2
        exact a2
      | bad =>
        rw [hm] at a2
        exact a2
    | true =>
      rw [if_pos rfl]
      exact a1 F' μ' H' _ r1 s1 rfl
  | _ => exact a1.elim
/-- a BoolOp of one part more -/
theorem pe_boolop {o : BoolOp} {es : List Expr} {pos : Pos} {m : Ev Val} (h : Snd W X Z m (.BoolOp o es pos)) : PE X (.BoolOp o es pos) (RD W Z m) := h.pe
theorem snd_and {ma mb : Ev Val} {p q : Expr} {r : List Expr} {pos : Pos} (ha : Snd W X Z ma p) (hp : notIf p = true)
    (hb : (r = [] ∧ notIf q = true ∧ Snd W X Z mb q) ∨ (r ≠ [] ∧ Snd W X Z mb (.BoolOp .And (q :: r) pos))) : Snd W X Z (andM ma mb) (.BoolOp .And (p :: q :: r) pos) := by
  have hpe : PE X (.BoolOp .And (q :: r) pos) (RD W Z mb) := by
    rcases hb with ⟨rfl, _, s⟩ | ⟨_, s⟩
    · exact pe_one s.pe
    · exact s.pe
  have hpw : PW X (.BoolOp .And (q :: r) pos) (RDb W Z mb) := by
    rcases hb with ⟨rfl, hq, s⟩ | ⟨_, s⟩
    · exact pw_and1 (s.pt hq)
    · exact s.pw rfl
  have w : PW X (.BoolOp .And (p :: q :: r) pos) (RDb W Z (andM ma mb)) := PW.imp (pw_and (ha.pt hp) hpw) fun σ H Q q => and_b q
  exact ⟨PE.imp (pe_and ha.pe hpe) fun σ H Q q => and_v q, fun _ => w.pt, fun _ => w⟩
theorem snd_or {ma mb : Ev Val} {p q : Expr} {r : List Expr} {pos : Pos} (ha : Snd W X Z ma p) (hp : notIf p = true)
    (hb : (r = [] ∧ notIf q = true ∧ Snd W X Z mb q) ∨ (r ≠ [] ∧ Snd W X Z mb (.BoolOp .Or (q :: r) pos))) : Snd W X Z (orM ma mb) (.BoolOp .Or (p :: q :: r) pos) := by
  have hpe : PE X (.BoolOp .Or (q :: r) pos) (RD W Z mb) := by
    rcases hb with ⟨rfl, _, s⟩ | ⟨_, s⟩
    · exact pe_one s.pe
    · exact s.pe
  have hpw : PW X (.BoolOp .Or (q :: r) pos) (RDb W Z mb) := by
    rcases hb with ⟨rfl, hq, s⟩ | ⟨_, s⟩
    · exact pw_or1 (s.pt hq)
    · exact s.pw rfl
  have w : PW X (.BoolOp .Or (p :: q :: r) pos) (RDb W Z (orM ma mb)) := PW.imp (pw_or (ha.pt hp) hpw) fun σ H Q q => or_b q
  exact ⟨PE.imp (pe_or ha.pe hpe) fun σ H Q q => or_v q, fun _ => w.pt, fun _ => w⟩
theorem snd_ite {mc ma mb : Ev Val} {p q r : Expr} (hc : Snd W X Z mc p) (hp : notIf p = true) (ha : Snd W X Z ma q) (hb : Snd W X Z mb r) (pos : Pos) :
    Snd W X Z (fun env h => (mc env h).bind fun x h => (ofOpt (asB x) h).bind fun c h => if c then ma env h else mb env h) (.IfExp p q r pos) := by
  refine ⟨PE.imp (pe_ifExp (hc.pt hp) ha.pe hb.pe) fun σ H Q q => ?_, fun z => (by cases z), fun z => by cases z⟩
  obtain ⟨F, μ, env, h, r, e, a⟩ := q
  show RDb W Z mc σ H fun c H1 => if c = true then RD W Z ma σ H1 Q else RD W Z mb σ H1 Q
  refine rdb_step r e a fun b h1 F' μ' H' r1 e1 s1 a1 => ?_
  have go : ∀ {m : Ev Val}, Aft (m env h1) (fun v h' => ∀ F' μ' H' x, RSt W F' μ' H' h' → Stp F μ H F' μ' H' → RV W F' μ' H' v x → Q x H') (Exq W Z F' μ' H' σ) → RD W Z m σ H' Q := fun {m} a => by
    refine ⟨F', μ', env, h1, r1, e1, ?_⟩
    cases hm : m env h1 with
    | ok v h2 =>
      rw [hm] at a
      exact fun F2 μ2 H2 x r2 s2 ex => a F2 μ2 H2 x r2 (s1.trans s2) ex
    | exc c v h2 =>
      rw [hm] at a
      exact a
    | bad =>
      rw [hm] at a
      exact a
  cases b with
  | true =>
    rw [if_pos rfl] at a1 ⊢
    exact go a1
  | false =>
    rw [if_neg Bool.false_ne_true] at a1 ⊢
    exact go a1
/-- a comparison: as a value and as a test -/
theorem snd_cmp {ma mb : Ev Val} {p q : Expr} (g : Gd W k N sc ow X Z) (o : COp) (ha : Snd W X Z ma p) (hb : Snd W X Z mb q) (hq : notSet q = true) (pos : Pos) :
    Snd W X Z (fun env h => (ma env h).bind fun x h => (mb env h).bind fun y h => ofOpt ((cmpop o x y).map .bl) h) (.Compare p [opC o] [q] pos) := by
  have hm : behindInMarks (opC o) q = false := mark_no hq
  refine ⟨PE.imp (pe_cmpR (op_C g.eK g.units o) ha.pe hb.pe hm) fun σ H Q q => rd_two q, fun _ => PT.imp (pt_cmpR (op_C g.eK g.units o) ha.pe hb.pe hm) fun σ H Q q => ?_, fun z => by cases z⟩
  show RD W Z ma σ H fun x H1 => RD W Z mb σ H1 fun y H2 => rC W o x y H2 fun x H' => ∃ k, x = .bl k ∧ Q k H'
  obtain ⟨F, μ, env, h, r, e, a⟩ := q
  have a' : Aft (((ma env h).bind fun x h => (mb env h).bind fun y h => ofOpt ((cmpop o x y).map Val.bl) h).bind fun x h => ofOpt (asB x) h) (fun v h' => ∀ F' μ' H' x, RSt W F' μ' H' h' → Stp F μ H F' μ' H' → v = x → Q x H') (Exq W Z F μ H σ) := a
  rw [Out.assoc] at a'
  refine rd_step r e a' fun v h1 F1 μ1 H1 x r1 e1 s1 v1 a1 => ?_
  rw [Out.assoc] at a1
  refine rd_step r1 e1 a1 fun w h2 F2 μ2 H2 y r2 e2 s2 v2 a2 => ?_
  cases h3 : cmpop o v w with
  | some b =>
    rw [h3] at a2
    refine ⟨F2, μ2, h2, v, w, .bl b, r2, RV.mono s2 v x v1, v2, (by show (cmpop o v w).map Val.bl = _; rw [h3]; rfl), fun F3 H3 z r3 s3 v3 => ⟨b, v3, a2 F3 μ2 H3 b r3 ((s1.trans s2).trans s3) rfl⟩⟩
  | none =>
    rw [h3] at a2
    exact a2.elim
end
end Pyi
set_option Elab.async false
set_option linter.all false
set_option maxRecDepth 100000
set_option maxHeartbeats 2000000
/-! The interpreter is right: more expressions. -/
namespace Pyi
open PySem PySem.Spec PyProof.Rows L2

section
variable {U : Nat → Option FDef} {W : Wd} {L : Lk} {k : Nat} {N : List Str} {sc ow : Scope} {X : Cx} {Z : WX}
theorem rdb_rd {m : Ev Val} {σ : L2.St} {H : Hp} {Q : Bool → Hp → Prop} (q : RDb W Z m σ H Q) : RD W Z m σ H (fun x H' => ∃ c, x = .bl c ∧ Q c H') := by
  obtain ⟨F, μ, env, hh, r, e, a⟩ := q
  refine rd_step r e a fun v h' F' μ' H' y r1 e1 s1 v1 a1 => ?_
  obtain ⟨b, eb, kk⟩ := aft_opt a1
  cases v with
  | bl c =>
    have ec : c = b := Option.some.inj eb
    exact ⟨b, by rw [← ec]; exact v1, kk F' μ' H' b r1 s1 rfl⟩
  | _ => cases eb
def chnM (o p : COp) (ma mb mc : Ev Val) : Ev Val := fun env h => (ma env h).bind fun x h => (mb env h).bind fun y h => (ofOpt (cmpop o x y) h).bind fun t h =>
  if t then (mc env h).bind fun z h => ofOpt ((cmpop p y z).map .bl) h else .ok (.bl false) h
theorem chn_t {ma mb mc : Ev Val} {o p : COp} {σ : L2.St} {H : Hp} {Q : VK} (q : RD W Z (chnM o p ma mb mc) σ H Q) : tChain (rC W o) (rC W p) (RD W Z ma) (RD W Z mb) (RD W Z mc) σ H Q := by
  obtain ⟨F, μ, env, h, r, e, a⟩ := q
  show RD W Z ma σ H fun x H1 => RD W Z mb σ H1 fun y H2 => rC W o x y H2 fun z H3 => ∃ k, z = .bl k ∧ (if k = true then RD W Z mc σ H3 fun w' H4 => rC W p y w' H4 Q else Q (.bl false) H3)
  refine rd_step r e a fun v h1 F1 μ1 H1 x r1 e1 s1 v1 a1 => ?_
  refine rd_step r1 e1 a1 fun w h2 F2 μ2 H2 y r2 e2 s2 v2 a2 => ?_
  obtain ⟨t, et, a3⟩ : ∃ t, cmpop o v w = some t ∧ Aft (if t = true then (mc env h2).bind fun z h => ofOpt ((cmpop p w z).map Val.bl) h else .ok (Val.bl false) h2) (fun v h' => ∀ F' μ' H' x, RSt W F' μ' H' h' → Stp F μ H F' μ' H' → RV W F' μ' H' v x → Q x H') (Exq W Z F2 μ2 H2 σ) := by
    cases hc : cmpop o v w with
    | some t =>
      rw [hc] at a2
      exact ⟨t, rfl, a2⟩
    | none =>
      rw [hc] at a2
      exact a2.elim
  refine ⟨F2, μ2, h2, v, w, .bl t, r2, RV.mono s2 v x v1, v2, (by show (cmpop o v w).map Val.bl = _; rw [et]; rfl), fun F3 H3 z r3 s3 v3 => ⟨t, v3, ?_⟩⟩
  cases t with
  | false =>
    rw [if_neg Bool.false_ne_true] at a3 ⊢
    exact a3 F3 μ2 H3 _ r3 ((s1.trans s2).trans s3) rfl
  | true =>
    rw [if_pos rfl] at a3 ⊢
    refine ⟨F3, μ2, env, h2, r3, e2.mono s3, ?_⟩
    cases hm : mc env h2 with
    | ok u h4 =>
      rw [hm] at a3
      intro F4 μ4 H4 y4 r4 s4 v4
      obtain ⟨b, eb, kk⟩ := aft_opt a3
      exact ⟨F4, μ4, h4, w, u, b, r4, RV.mono (s3.trans s4) w y v2, v4, eb, fun F5 H5 z5 r5 s5 v5 => kk F5 μ4 H5 z5 r5 ((((s1.trans s2).trans s3).trans s4).trans s5) v5⟩
    | exc c u h4 =>
      rw [hm] at a3
      exact Exq.trans a3 s3
    | bad =>
      rw [hm] at a3
      exact a3
theorem snd_chn {ma mb mc : Ev Val} {p q r : Expr} (g : Gd W k N sc ow X Z) (o o2 : COp) (ha : Snd W X Z ma p) (hb : Snd W X Z mb q) (hc : Snd W X Z mc r) (hr : notSet r = true) (pos : Pos) :
    Snd W X Z (chnM o o2 ma mb mc) (.Compare p [opC o, opC o2] [q, r] pos) := by
  have hm : lastMarks [opC o, opC o2] [q, r] = false := by
    show lastMarks [opC o2] [r] = false
    exact mark_no hr
  exact ⟨PE.imp (pe_chain (op_C g.eK g.units o) (op_C g.eK g.units o2) ha.pe hb.pe hc.pe hm) fun σ H Q q => chn_t q,
    fun _ => PT.imp (pt_chain (op_C g.eK g.units o) (op_C g.eK g.units o2) ha.pe hb.pe hc.pe hm) fun σ H Q q => chn_t (rdb_rd q), fun z => by cases z⟩
/-! ### tuples, items, slices -/
theorem snd_tup {me : Ev (List Val)} {xs : List Expr} (ha : PA X xs (RDs W Z me)) (hl : ∀ env h vs h', me env h = .ok vs h' → vs.length ≤ most) (kk : Nat) (pos : Pos) :
    Snd W X Z (fun env h => (me env h).bind fun vs h => .ok (.tup vs) h) (.Tuple xs kk pos) := by
  refine .of (PE.imp (pe_tup ha) fun σ H Q q => ?_) rfl
  obtain ⟨F, μ, env, h, r, e, a⟩ := q
  dsimp only at a
  show RDs W Z me σ H fun xs H1 => xs.length ≤ sizeLine ∧ ∀ p, H1 p = none → Q (.ref p) (upd H1 p (.tup xs))
  cases hm : me env h with
  | ok vs h' =>
    have hl' := hl _ _ _ _ hm
    refine ⟨F, μ, env, h, r, e, ?_⟩
    rw [hm] at a ⊢
    intro F1 μ1 H1 ys r1 s1 v1
    refine ⟨by rw [← RVs.length v1]; exact most_line hl', fun p np => ?_⟩
    obtain ⟨r2, s2, v2⟩ := newT r1 v1 np
    exact a _ _ _ _ r2 (s1.trans s2) v2
  | exc c v h' =>
    refine ⟨F, μ, env, h, r, e, ?_⟩
    rw [hm] at a ⊢
    exact a
  | bad =>
    rw [hm] at a
    exact a.elim
/-- an item, also of a list that changes -/
def rGH (W : Wd) : R2 := fun x y H Q => ∃ F μ h v w u, RSt W F μ H h ∧ RV W F μ H v x ∧ RV W F μ H w y ∧ getH h v w = some u ∧
  ∀ F' H' z, RSt W F' μ H' h → Stp F μ H F' μ H' → RV W F' μ H' u z → Q z H'
theorem ix_H (hK : X.K = W.K) : IxR X (rGH W) := by
  intro value slice pins s σ H x y xv yv Q I rx ry hq hs
  obtain ⟨F, μ, h, v, w, u, r, hv, hw, e, k⟩ := hq
  have other : getI v w = some u → wpAny (model X.prog X.w) X.A (subscriptTail value slice xv yv) (EP X pins σ Q) X.xe s := fun e' =>
    ix_G hK value slice pins s σ H x y xv yv Q I rx ry ⟨F, μ, h, v, w, u, r, hv, hw, e', k⟩ hs
  cases v with
  | ref n =>
    cases w with
    | int i =>
      have ey : y = .int i := hw
      obtain ⟨a, em, rfl⟩ := hv
      cases ho : h[n]? with
      | none =>
        have e' : (match h[n]? with
          | some (.lst vs) => Pyi.atI vs i
          | _ => none) = some u := e
        rw [ho] at e'
        cases e'
      | some o =>
        have e' : (match h[n]? with
          | some (.lst vs) => Pyi.atI vs i
          | _ => none) = some u := e
        rw [ho] at e'
        cases o with
        | lst vs =>
          obtain ⟨ys, g, q⟩ := r.ob n _ a ho em
          obtain ⟨z, e1, r1⟩ := atI_rel q (show Pyi.atI vs i = some u from e')
          exact ix_list value slice pins s σ H _ _ xv yv Q I rx ry ⟨a, ys, i, z, rfl, ey, SqL.of g, e1, k F H z r Stp.refl r1⟩ hs
        | ins _ _ _ => cases e'
    | _ => exact other e
  | _ => exact other e
theorem snd_idx {ma mb : Ev Val} {p q : Expr} (g : Gd W k N sc ow X Z) (ha : Snd W X Z ma p) (hb : Snd W X Z mb q) (hs : notSlice q = true) (pos : Pos) :
    Snd W X Z (fun env h => (ma env h).bind fun x h => (mb env h).bind fun y h => ofOpt (getH h x y) h) (.Subscript p q pos) := by
  refine .of (PE.imp (pe_ix (ix_H g.eK) ha.pe hb.pe (sub_plain hs)) fun σ H Q q => ?_) rfl
  obtain ⟨F, μ, env, h, r, e, m⟩ := q
  show RD W Z ma σ H fun x H1 => RD W Z mb σ H1 fun y H2 => rGH W x y H2 Q
  refine rd_step r e m fun v h' F1 μ1 H1 x r1 e1 s1 v1 m1 => ?_
  refine rd_step r1 e1 m1 fun w h2 F2 μ2 H2 y r2 e2 s2 v2 m2 => ?_
  obtain ⟨u, h3, k⟩ := aft_opt m2
  exact ⟨F2, μ2, h2, v, w, u, r2, RV.mono s2 v x v1, v2, h3, fun F3 H3 z r3 s3 v3 => k F3 μ2 H3 z r3 ((s1.trans s2).trans s3) v3⟩
theorem snd_slc {ma : Ev Val} {ml mh : Ev (Option Int)} {p : Expr} {lo hi : Option Expr} (g : Gd W k N sc ow X Z) (ha : Snd W X Z ma p) (hl : PO X lo (RDo W Z ml)) (hh : PO X hi (RDo W Z mh)) (pos p2 : Pos) :
    Snd W X Z (fun env h => (ma env h).bind fun x h => (ml env h).bind fun l h => (mh env h).bind fun u h => ofOpt (getS x l u) h) (.Subscript p (.Slice lo hi none p2) pos) := by
  refine .of (PE.imp (pe_slice (sl_G g.eK) ha.pe hl hh) fun σ H Q q => ?_) rfl
  obtain ⟨F, μ, env, h, r, e, m⟩ := q
  show RD W Z ma σ H fun x H1 => RDo W Z ml σ H1 fun l H2 => RDo W Z mh σ H2 fun u H3 => rGS W x l u H3 Q
  refine rd_step r e m fun v h' F1 μ1 H1 x r1 e1 s1 v1 m1 => ?_
  refine rd_step r1 e1 m1 fun w h2 F2 μ2 H2 y r2 e2 s2 v2 m2 => ?_
  refine rd_step r2 e2 m2 fun w' h3 F3 μ3 H3 y' r3 e3 s3 v3 m3 => ?_
  subst v2 v3
  obtain ⟨u, h4, k⟩ := aft_opt m3
  exact ⟨F3, μ3, h3, v, u, r3, RV.mono (s2.trans s3) v x v1, h4, fun F4 H4 z r4 s4 v4 => k F4 μ3 H4 z r4 (((s1.trans s2).trans s3).trans s4) v4⟩
theorem snd_po0 : PO X none (RDo W Z fun _ h => .ok none h) := PO.imp po_none fun σ H Q q => by
  obtain ⟨F, μ, env, h, r, e, a⟩ := q
  exact a F μ H none r Stp.refl rfl
theorem snd_po1 {m : Ev Val} {x : Expr} (h : Snd W X Z m x) : PO X (some x) (RDo W Z fun env h => (m env h).bind fun x h => (ofOpt (asI x) h).bind fun i h => .ok (some i) h) := PO.imp (po_some h.pe) fun σ H Q q => by
  obtain ⟨F, μ, env, h, r, e, a⟩ := q
  show RD W Z m σ H fun x H1 => ∃ i, x = .int i ∧ Q (some i) H1
  refine rd_step r e a fun v h' F' μ' H' y r1 e1 s1 v1 a1 => ?_
  cases v with
  | int i => exact ⟨i, v1, a1 F' μ' H' _ r1 s1 rfl⟩
  | _ => exact a1.elim
/-! ### argument lists -/
theorem snd_pa0 : PA X [] (RDs W Z fun _ h => .ok [] h) := PA.imp pa_nil fun σ H Q q => by
  obtain ⟨F, μ, env, h, r, e, a⟩ := q
  exact a F μ H [] r Stp.refl rfl
theorem snd_pa1 {m : Ev Val} {ms : Ev (List Val)} {x : Expr} {xs : List Expr} (h : Snd W X Z m x) (hs : PA X xs (RDs W Z ms)) (hn : notStar x = true) :
    PA X (x :: xs) (RDs W Z fun env h => (m env h).bind fun x h => (ms env h).bind fun r h => .ok (x :: r) h) := PA.imp (pa_cons h.pe hs (star_cons hn)) fun σ H Q q => by
  obtain ⟨F, μ, env, h, r, e, a⟩ := q
  show RD W Z m σ H fun x H1 => RDs W Z ms σ H1 fun xs H2 => Q (x :: xs) H2
  refine rd_step r e a fun v h1 F1 μ1 H1 x r1 e1 s1 v1 a1 => ?_
  refine rd_step r1 e1 a1 fun w h2 F2 μ2 H2 y r2 e2 s2 v2 a2 => ?_
  exact a2 F2 μ2 H2 _ r2 (s1.trans s2) ⟨x, y, rfl, RV.mono s2 v x v1, v2⟩
theorem lits_rv {F : Addr → Prop} {μ : List Addr} {H : Hp} : ∀ ds : List Lit, RVs W F μ H (ds.map Lit.val) (ds.map Lit.V)
  | [] => rfl
  | d :: ds => ⟨_, _, rfl, lit_rv d, lits_rv ds⟩
theorem snd_call {ms : Ev (List Val)} {xs : List Expr} {f : Nat} {nm : Str} {ds : List Lit} {y : Expr} (hy : Hyp U W L k) (g : Gd W k N sc ow X Z) (hf : L.fn f = some nm) (hg : gnameIs sc nm y = true) (hd : ds ∈ L.dfl f) (hx : xs.all notStar = true)
    (ha : PA X xs (RDs W Z ms)) (h0 : xs = [] → ∀ env h vs h', ms env h = .ok vs h' → vs = [] ∧ h' = h) (hb : xs = [] → ∀ env h, ∃ vs h', ms env h = .ok vs h') (pos : Pos) :
    Snd W X Z (fun env h => (ms env h).bind fun vs h => callD U k f (vs ++ ds.map Lit.val) h) (.Call y xs [] pos) := by
  obtain ⟨p, rfl, hgl, hdb⟩ := g.gl hg
  obtain ⟨fa, fd, ps, hm, hk, hbs, F⟩ := hy.call f nm hf
  obtain ⟨dvs, b, hv⟩ := hbs ds hd
  have F' : Fok X.prog X.w X.K X.mg X.base k fa fd ps (spD W U k f) := by rw [g.eP, g.ew, g.eK, g.emg, g.ebase]; exact F
  have hm' : X.mg nm = some (.ref fa) := by rw [g.emg]; exact hm
  have hk' : PySem.W.keepIn X.K (.ref fa) = true := by rw [g.eK]; exact hk
  have b' : Binds X.K fd ps dvs := by rw [g.eK]; exact b
  refine .of ?_ rfl
  cases xs with
  | nil =>
    refine PE.imp (fok_call0 F' g.rm hgl hm' hk' b' hv g.tk hdb) fun σ H Q q => ?_
    obtain ⟨F, μ, env, h, r, e, a⟩ := q
    obtain ⟨vs, h', em⟩ := hb rfl env h
    obtain ⟨ev, eh⟩ := h0 rfl env h vs h' em
    subst ev eh
    dsimp only at a
    rw [em] at a
    refine ⟨F, μ, h', ds.map Lit.val, r, lits_rv ds, ?_⟩
    have a' : Aft (callD U k f (ds.map Lit.val) h') _ _ := a
    exact a'
  | cons x xs =>
    obtain ⟨n1, n2⟩ := and2 (show (notStar x && xs.all notStar) = true from hx)
    refine PE.imp (fok_call F' g.rm hgl hm' hk' b' hv g.tk ha hdb (star_cons n1) (star_plain n2)) fun σ H Q q => ?_
    obtain ⟨F, μ, env, h, r, e, a⟩ := q
    refine rd_step r e a fun vs h1 F1 μ1 H1 ys r1 e1 s1 v1 a1 => ?_
    refine ⟨F1, μ1, h1, vs ++ ds.map Lit.val, r1, RVs.append v1 (lits_rv ds), ?_⟩
    cases hc : callD U k f (vs ++ ds.map Lit.val) h1 with
    | ok v h2 =>
      rw [hc] at a1
      exact fun F2 μ2 H2 x r2 s2 v2 => a1 F2 μ2 H2 x r2 (s1.trans s2) v2
    | exc c v h2 =>
      rw [hc] at a1
      exact a1
    | bad =>
      rw [hc] at a1
      exact a1
theorem snd_bi {ms : Ev (List Val)} {xs : List Expr} {b : Bi} {y : Expr} (hy : Hyp U W L k) (g : Gd W k N sc ow X Z) (hg : gnameIs sc (biN b) y = true) (hne : (!xs.isEmpty) = true) (hx : xs.all notStar = true)
    (ha : PA X xs (RDs W Z ms)) (pos : Pos) : Snd W X Z (fun env h => (ms env h).bind fun vs h => ofOpt (bicall b vs) h) (.Call y xs [] pos) := by
  obtain ⟨p, rfl, hgl, hdb⟩ := g.gl hg
  cases xs with
  | nil => cases hne
  | cons x xs =>
    obtain ⟨n1, n2⟩ := and2 (show (notStar x && xs.all notStar) = true from hx)
    exact .of (PE.imp (pe_bi (bi_G g.eK g.calm g.rm.gd g.units b) hgl (g.mgN hy (bi_mem b)) ha (star_cons n1) (star_plain n2)) fun σ H Q q => rd_many q) rfl
theorem ty_boot {t : Ty} (h : isBuiltTy t = true) : bootBuiltins (tyN t) = some (.type (tyName t)) ∧ tyN t ∈ biNames ∧ tyN t ≠ ("__name__" : Str) := by
  cases t with
  | own c => cases h
  | _ => decide +kernel
theorem snd_isi {ma : Ev Val} {a y z : Expr} {t : Ty} (hy : Hyp U W L k) (g : Gd W k N sc ow X Z) (hg : gnameIs sc "isinstance" y = true) (ht : isBuiltTy t = true) (hz : gnameIs sc (tyN t) z = true) (hn : notStar a = true) (ha : Snd W X Z ma a) (pos : Pos) :
    Snd W X Z (fun env h => (ma env h).bind fun x h => ofOpt ((isiOf x t).map .bl) h) (.Call y [a, z] [] pos) := by
  obtain ⟨p, rfl, hgl, hdb⟩ := g.gl hg
  obtain ⟨p2, rfl, hgl2, hdb2⟩ := g.gl hz
  obtain ⟨b1, b2, b3⟩ := ty_boot ht
  have hpe : PE X (.Name (tyN t) p2) (tC (.ty (tyName t))) := pe_bltn hgl2 (g.mgN hy b2) b1 rfl b3 hdb2
  refine .of (PE.imp (pe_callB call_isi hgl (g.mgN hy (by decide +kernel)) (by decide +kernel) (pa_cons ha.pe (pa_cons hpe pa_nil (star_cons rfl)) (star_cons hn)) (by decide) hdb (star_cons hn) (star_plain rfl)) fun σ H Q q => ?_) rfl
  obtain ⟨F, μ, env, h, r, e, m⟩ := q
  show RD W Z ma σ H fun x H1 => rIsi X.K [x, .ty (tyName t)] H1 Q
  refine rd_step r e m fun v h' F1 μ1 H1 x r1 e1 s1 v1 m1 => ?_
  cases hi : isiOf v t with
  | none =>
    rw [hi] at m1
    exact m1.elim
  | some b =>
    rw [hi] at m1
    obtain ⟨T, q1, q2⟩ := isi_G v1 hi
    exact ⟨x, .ty (tyName t), .type T, .type (tyName t), b, rfl, .ty _, by rw [g.eK]; exact q1, by rw [g.eK]; exact q2, m1 F1 μ1 H1 _ r1 s1 rfl⟩
/-! ### lists just made -/
theorem snd_fr {m : Ev (List Val)} {x : Expr} (h : PE X x (RDf W Z m)) (ho : ownTest x = false) : Snd W X Z (fun env h => (m env h).bind fun vs h => .ok (.lst vs) h) x := .of (PE.imp h fun σ H Q q => rd_freeze q) ho
theorem snd_mk {m : Ev (List Val)} {x : Expr} (h : PE X x (RDf W Z m)) (ho : ownTest x = false) : Snd W X Z (fun env h => (m env h).bind fun vs h => .ok (.ref h.length) (h ++ [.lst vs])) x := .of (PE.imp h fun σ H Q q => rd_mk q) ho
/-- a list just laid -/
theorem newL {F : Addr → Prop} {μ : List Addr} {H0 H : Hp} {h : Hs} {vs : List Val} {xs : List L2.V} {p : Addr} (r : RSt W F μ H h) (q : RVs W F μ H vs xs) (n : H p = none) (n0 : H0 p = none) :
    RSt W F μ (upd H p (.lst xs)) h ∧ Stp F μ H F μ (upd H p (.lst xs)) ∧ Fresh W H0 F μ (upd H p (.lst xs)) vs (.ref p) :=
  ⟨r.fresh n, Stp.fresh n (r.notF n), p, xs, rfl, n0, r.notF n, r.notM n, upd_same, RVs.out (r.notF n) vs xs q⟩
theorem none_back {F F' : Addr → Prop} {μ μ' : List Addr} {H H' : Hp} (s : Stp F μ H F' μ' H') {p : Addr} (n : H' p = none) : H p = none := by
  cases hd : H p with
  | none => rfl
  | some o => exact absurd n (s.lv p (by rw [hd]; exact fun z => by cases z))
theorem snd_lst {me : Ev (List Val)} {xs : List Expr} (ha : PA X xs (RDs W Z me)) (hl : ∀ env h vs h', me env h = .ok vs h' → vs.length ≤ most) (pos : Pos) : PE X (.List xs pos) (RDf W Z me) := by
  refine PE.imp (pe_lst ha) fun σ H Q q => ?_
  obtain ⟨F, μ, env, h, r, e, a⟩ := q
  show RDs W Z me σ H fun xs H1 => xs.length ≤ sizeLine ∧ ∀ p, H1 p = none → Q (.ref p) (upd H1 p (.lst xs))
  cases hm : me env h with
  | ok vs h' =>
    have hl' := hl _ _ _ _ hm
    refine ⟨F, μ, env, h, r, e, ?_⟩
    rw [hm] at a ⊢
    intro F1 μ1 H1 ys r1 s1 v1
    refine ⟨by rw [← RVs.length v1]; exact most_line hl', fun p np => ?_⟩
    obtain ⟨r2, s2, v2⟩ := newL r1 v1 np (none_back s1 np)
    exact a _ _ _ _ r2 (s1.trans s2) v2
  | exc c v h' =>
    refine ⟨F, μ, env, h, r, e, ?_⟩
    rw [hm] at a ⊢
    exact a
  | bad =>
    rw [hm] at a
    exact a.elim
theorem boot_L : bootBuiltins "list" = some (.type "list") := by decide +kernel
theorem snd_of {ma : Ev Val} {x y : Expr} (hy : Hyp U W L k) (g : Gd W k N sc ow X Z) (hg : gnameIs sc "list" y = true) (hn : notStar x = true) (ha : Snd W X Z ma x) (pos : Pos) :
    PE X (.Call y [x] [] pos) (RDf W Z fun env h => (ma env h).bind fun x h => ofOpt (itemsOf x) h) := by
  obtain ⟨p, rfl, hgl, hdb⟩ := g.gl hg
  refine PE.imp (pe_callTy call_list_of hgl (g.mgN hy (by decide +kernel)) boot_L (pa_cons ha.pe pa_nil (star_cons hn)) (by decide) hdb (star_cons hn) (star_plain rfl)) fun σ H Q q => ?_
  obtain ⟨F, μ, env, h, r, e, m⟩ := q
  show RD W Z ma σ H fun x H1 => ∃ p ys, [x] = [.ref p] ∧ (SqL X.K H1 p ys ∨ SqT X.K H1 p ys) ∧ ∀ l, H1 l = none → Q (.ref l) (upd H1 l (.lst ys))
  refine rd_step r e m fun v h' F1 μ1 H1 x r1 e1 s1 v1 m1 => ?_
  obtain ⟨vs, ev, kk⟩ := aft_opt m1
  cases v with
  | tup ws =>
    obtain ⟨a, ys, rfl, t, q1, _, _⟩ := seqT v1
    cases ev
    refine ⟨a, ys, rfl, .inr (by rw [g.eK]; exact t), fun l nl => ?_⟩
    obtain ⟨r2, s2, v2⟩ := newL r1 q1 nl (none_back s1 nl)
    exact kk _ _ _ _ r2 (s1.trans s2) v2
  | lst ws =>
    obtain ⟨a, ys, rfl, t, q1, _, _⟩ := seqL v1
    cases ev
    refine ⟨a, ys, rfl, .inl (by rw [g.eK]; exact t), fun l nl => ?_⟩
    obtain ⟨r2, s2, v2⟩ := newL r1 q1 nl (none_back s1 nl)
    exact kk _ _ _ _ r2 (s1.trans s2) v2
  | _ => cases ev
theorem rng_rvs {F : Addr → Prop} {μ : List Addr} {H : Hp} (n : Nat) (lo : Int) : RVs W F μ H (rngV lo n) ((List.range n).map fun i => V.int (lo + (i : Nat))) := by
  induction n generalizing lo with
  | zero => rfl
  | succ n ih =>
    refine ⟨.int lo, (List.range n).map fun i => V.int (lo + 1 + (i : Nat)), ?_, rfl, ih (lo + 1)⟩
    rw [List.range_succ_eq_map, List.map_cons, List.map_map]
    congr 1
    · simp
    · refine List.map_congr_left fun i _ => ?_
      show V.int (lo + ((i + 1 : Nat) : Int)) = V.int (lo + 1 + (i : Nat))
      congr 1
      omega
theorem rgOk_of {j : Int} (h : rgOk j = true) : -(2 ^ 62) ≤ j ∧ j < 2 ^ 62 := by
  obtain ⟨a, b⟩ := and2 h
  exact ⟨of_decide_eq_true a, of_decide_eq_true b⟩
def rng1M (mb : Ev Val) : Ev (List Val) := fun env h => (mb env h).bind fun x h => (ofOpt (asI x) h).bind fun j h => if rgOk j then .ok (rngV 0 j.toNat) h else .bad
def rng2M (ma mb : Ev Val) : Ev (List Val) := fun env h => (ma env h).bind fun x h => (mb env h).bind fun y h => (ofOpt (asI x) h).bind fun i h => (ofOpt (asI y) h).bind fun j h =>
  if rgOk i && rgOk j then .ok (rngV i (j - i).toNat) h else .bad
theorem snd_lrng1 {mb : Ev Val} {x y z : Expr} (hy : Hyp U W L k) (g : Gd W k N sc ow X Z) (hg : gnameIs sc "list" y = true) (hg2 : gnameIs sc "range" z = true) (hn : notStar x = true) (hb : Snd W X Z mb x) (pos pos2 : Pos) :
    PE X (.Call y [.Call z [x] [] pos2] [] pos) (RDf W Z fun env h => (rng1M mb env h).bind fun xs h => if decide (xs.length ≤ most) then .ok xs h else .bad) := by
  obtain ⟨p, rfl, hgl, _⟩ := g.gl hg
  obtain ⟨p2, rfl, hgl2, _⟩ := g.gl hg2
  refine PE.imp (pe_listRg g.calm hgl (g.mgN hy (by decide +kernel)) (prg_1 hgl2 (g.mgN hy (by decide +kernel)) hb.pe (star_cons hn)) (star_cons rfl)) fun σ H Q q => ?_
  obtain ⟨F, μ, env, h, r, e, m⟩ := q
  show RD W Z mb σ H fun x H1 => ∃ n, x = .int n ∧ (RgOk 0 n ∧ ∀ q, H1 q = none → Q (.ref q) (upd H1 q (.lst (rgV 0 n))))
  unfold rng1M at m
  dsimp only at m
  rw [Out.assoc] at m
  refine rd_step r e m fun v h1 F1 μ1 H1 x r1 e1 s1 v1 m1 => ?_
  cases v with
  | int j =>
    have m2 : Aft ((if rgOk j = true then Out.ok (rngV 0 j.toNat) h1 else .bad).bind fun xs h => if decide (xs.length ≤ most) then Out.ok xs h else .bad) _ _ := m1
    by_cases hj : rgOk j = true
    · rw [if_pos hj] at m2
      have m3 : Aft (if decide ((rngV 0 j.toNat).length ≤ most) = true then Out.ok (rngV 0 j.toNat) h1 else .bad) _ _ := m2
      by_cases hl : decide ((rngV 0 j.toNat).length ≤ most) = true
      · rw [if_pos hl] at m3
        have hl' := of_decide_eq_true hl
        rw [rngV_len] at hl'
        obtain ⟨b1, b2⟩ := rgOk_of hj
        refine ⟨j, v1, ⟨by decide, by decide, b1, b2, ?_⟩, fun l nl => ?_⟩
        · rw [Int.sub_zero]
          exact Nat.le_trans hl' (by decide)
        · have rr : RVs W F1 μ1 H1 (rngV 0 j.toNat) (rgV 0 j) := by
            have := rng_rvs (W := W) (F := F1) (μ := μ1) (H := H1) j.toNat 0
            unfold rgV
            rw [Int.sub_zero]
            exact this
          obtain ⟨r2, s2, v2⟩ := newL r1 rr nl (none_back s1 nl)
          exact m3 _ _ _ _ r2 (s1.trans s2) v2
      · rw [if_neg hl] at m3
        exact m3.elim
    · rw [if_neg hj] at m2
      exact m2.elim
  | _ => exact m1.elim
theorem snd_lrng2 {ma mb : Ev Val} {x x2 y z : Expr} (hy : Hyp U W L k) (g : Gd W k N sc ow X Z) (hg : gnameIs sc "list" y = true) (hg2 : gnameIs sc "range" z = true) (hn : notStar x = true) (hn2 : notStar x2 = true) (ha : Snd W X Z ma x) (hb : Snd W X Z mb x2) (pos pos2 : Pos) :
    PE X (.Call y [.Call z [x, x2] [] pos2] [] pos) (RDf W Z fun env h => (rng2M ma mb env h).bind fun xs h => if decide (xs.length ≤ most) then .ok xs h else .bad) := by
  obtain ⟨p, rfl, hgl, _⟩ := g.gl hg
  obtain ⟨p2, rfl, hgl2, _⟩ := g.gl hg2
  refine PE.imp (pe_listRg g.calm hgl (g.mgN hy (by decide +kernel)) (prg_2 hgl2 (g.mgN hy (by decide +kernel)) ha.pe hb.pe (star_cons hn) (star_cons hn2) (by rw [star_cons hn2]; rfl)) (star_cons rfl)) fun σ H Q q => ?_
  obtain ⟨F, μ, env, h, r, e, m⟩ := q
  show RD W Z ma σ H fun x H1 => RD W Z mb σ H1 fun y H2 => ∃ i j, x = .int i ∧ y = .int j ∧ (RgOk i j ∧ ∀ q, H2 q = none → Q (.ref q) (upd H2 q (.lst (rgV i j))))
  unfold rng2M at m
  dsimp only at m
  rw [Out.assoc] at m
  refine rd_step r e m fun v h1 F1 μ1 H1 x r1 e1 s1 v1 m1 => ?_
  rw [Out.assoc] at m1
  refine rd_step r1 e1 m1 fun w h2 F2 μ2 H2 y r2 e2 s2 v2 m2 => ?_
  cases v with
  | int i =>
    cases w with
    | int j =>
      have m3 : Aft ((if (rgOk i && rgOk j) = true then Out.ok (rngV i (j - i).toNat) h2 else .bad).bind fun xs h => if decide (xs.length ≤ most) then Out.ok xs h else .bad) _ _ := m2
      by_cases hj : (rgOk i && rgOk j) = true
      · rw [if_pos hj] at m3
        have m4 : Aft (if decide ((rngV i (j - i).toNat).length ≤ most) = true then Out.ok (rngV i (j - i).toNat) h2 else .bad) _ _ := m3
        by_cases hl : decide ((rngV i (j - i).toNat).length ≤ most) = true
        · rw [if_pos hl] at m4
          have hl' := of_decide_eq_true hl
          rw [rngV_len] at hl'
          obtain ⟨b1, b2⟩ := and2 hj
          obtain ⟨b1, b3⟩ := rgOk_of b1
          obtain ⟨b2, b4⟩ := rgOk_of b2
          refine ⟨i, j, v1, v2, ⟨b1, b3, b2, b4, Nat.le_trans hl' (by decide)⟩, fun l nl => ?_⟩
          obtain ⟨r3, s3, v3⟩ := newL r2 (rng_rvs (j - i).toNat i) nl (none_back (s1.trans s2) nl)
          exact m4 _ _ _ _ r3 ((s1.trans s2).trans s3) v3
        · rw [if_neg hl] at m4
          exact m4.elim
      · rw [if_neg hj] at m3
        exact m3.elim
    | _ => exact m2.elim
  | _ => exact m2.elim
def catM (ma mb : Ev Val) : Ev (List Val) := fun env h => (ma env h).bind fun x h => (mb env h).bind fun y h => match x, y with
  | .lst xs, .lst ys => if xs.length + ys.length ≤ most then .ok (xs ++ ys) h else .bad
  | _, _ => .bad
theorem snd_cat {ma mb : Ev Val} {p q : Expr} (ha : Snd W X Z ma p) (hb : Snd W X Z mb q) (pos : Pos) : PE X (.BinOp p .Add q pos) (RDf W Z (catM ma mb)) := by
  refine PE.imp (pe_op op_cat ha.pe hb.pe) fun σ H Q q => ?_
  obtain ⟨F, μ, env, h, r, e, m⟩ := q
  show RD W Z ma σ H fun x H1 => RD W Z mb σ H1 fun y H2 => rCat x y H2 Q
  refine rd_step r e m fun v h1 F1 μ1 H1 x r1 e1 s1 v1 m1 => ?_
  refine rd_step r1 e1 m1 fun w h2 F2 μ2 H2 y r2 e2 s2 v2 m2 => ?_
  cases v with
  | lst xs =>
    cases w with
    | lst ys =>
      have m3 : Aft (if xs.length + ys.length ≤ most then Out.ok (xs ++ ys) h2 else .bad) _ _ := m2
      by_cases hl : xs.length + ys.length ≤ most
      · rw [if_pos hl] at m3
        obtain ⟨a, as, rfl, _, q1, _, g1⟩ := seqL (RV.mono s2 _ _ v1)
        obtain ⟨b, bs, rfl, _, q2, _, g2⟩ := seqL v2
        refine ⟨a, b, as, bs, rfl, rfl, g1, g2, by rw [← RVs.length q1, ← RVs.length q2]; exact most_line hl, fun l nl => ?_⟩
        obtain ⟨r3, s3, v3⟩ := newL r2 (RVs.append q1 q2) nl (none_back (s1.trans s2) nl)
        exact m3 _ _ _ _ r3 ((s1.trans s2).trans s3) v3
      · rw [if_neg hl] at m3
        exact m3.elim
    | _ => exact m2.elim
  | _ => exact m2.elim
/-! ### tests of a comprehension, walks -/
theorem snd_c0 : PTs X [] (RDg W Z (fun _ _ _ _ b c => b = c) (fun _ h => .ok true h)) := by
  refine ⟨fun pins s σ H Q I q => pts_nil.run pins s σ H Q I ?_⟩
  obtain ⟨F, μ, env, h, r, e, a⟩ := q
  exact a F μ H true r Stp.refl rfl
theorem snd_c1 {m : Ev Val} {x : Expr} (h : Snd W X Z m x) (hn : notIf x = true) : PTs X [x] (RDg W Z (fun _ _ _ _ b c => b = c) (fun env h => (m env h).bind fun x h => (ofOpt (asB x) h).bind fun b h => if b then .ok true h else .ok false h)) := by
  refine ⟨fun pins s σ H Q I q => (pts_one (h.pt hn)).run pins s σ H Q I ?_⟩
  obtain ⟨F, μ, env, h, r, e, a⟩ := q
  refine rdb_step r e a fun b h1 F' μ' H' r1 e1 s1 a1 => ?_
  cases b with
  | true => exact a1 F' μ' H' true r1 s1 rfl
  | false => exact a1 F' μ' H' false r1 s1 rfl
/-- a walk over what is a list or a tuple -/
theorem pi_seq {tg l : Expr} {tl : TE} (hl : PE X l tl) : PI X tg l (fun σ H R => tl σ H fun x H1 => ∃ a, x = .ref a ∧ ((∃ xs, SqL X.K H1 a xs) ∧ R (Itl X.K a) H1 ∨ (∃ xs, SqT X.K H1 a xs) ∧ R (Itt X.K a) H1)) := by
  refine ⟨fun pins s σ H R I h => thn (hl.run pins s σ H _ I h) ?_⟩
  rintro v s1 ⟨x, H1, I1, rx, a, e, hq⟩
  subst e
  cases rx
  have new : ∀ b ∈ [s1.heap.objs.size], FpOk X pins H1 b := fun b hb => by
    have e : b = s1.heap.objs.size := by simpa using hb
    subst e
    exact I1.fpOk (Nat.le_refl _) (I1.hok.fresh (Nat.le_refl _))
  rcases hq with ⟨⟨xs, hq⟩, q⟩ | ⟨⟨xs, hq⟩, q⟩
  · obtain ⟨its, _, p, _⟩ := I1.list hq
    exact wpAny_pyIter_list p.isList ⟨s1.heap.objs.size, [s1.heap.objs.size], _, _, H1, rfl, I1.kept (t' := s1.toks) fun b o e => Heap.get?_push_of_some _ e, turn_list a _, ⟨_, Heap.get?_push_size _ rfl, rfl, rfl⟩, new, q⟩
  · obtain ⟨its, _, p, _⟩ := I1.tuple hq
    exact wpAny_pyIter_tuple (show s1.heap.IsTuple a its.toArray from p) ⟨s1.heap.objs.size, [s1.heap.objs.size], _, _, H1, rfl, I1.kept (t' := s1.toks) fun b o e => Heap.get?_push_of_some _ e, turn_tuple a _, ⟨_, Heap.get?_push_size _ rfl, rfl, rfl⟩, new, q⟩
theorem snd_iseq {m : Ev Val} {tg x : Expr} (g : Gd W k N sc ow X Z) (h : Snd W X Z m x) : PI X tg x (RDi W Z fun env h => (m env h).bind fun x h => ofOpt (itemsOf x) h) := by
  refine ⟨fun pins s σ H R I q => (pi_seq h.pe).run pins s σ H R I ?_⟩
  obtain ⟨F, μ, env, h, r, e, a⟩ := q
  refine rd_step r e a fun v h1 F1 μ1 H1 x r1 e1 s1 v1 a1 => ?_
  obtain ⟨xs, ex, kk⟩ := aft_opt a1
  obtain ⟨b, eb, w⟩ := walk_seq v1 ex
  refine ⟨b, eb, ?_⟩
  rw [g.eK]
  rcases w with ⟨w1, w2⟩ | ⟨w1, w2⟩
  · exact .inl ⟨w1, kk F1 μ1 H1 _ r1 s1 w2⟩
  · exact .inr ⟨w1, kk F1 μ1 H1 _ r1 s1 w2⟩
theorem snd_irng1 {mb : Ev Val} {tg x z : Expr} (hy : Hyp U W L k) (g : Gd W k N sc ow X Z) (hg : gnameIs sc "range" z = true) (hn : notStar x = true) (hb : Snd W X Z mb x) (pos : Pos) : PI X tg (.Call z [x] [] pos) (RDi W Z (rng1M mb)) := by
  obtain ⟨p, rfl, hgl, _⟩ := g.gl hg
  refine ⟨fun pins s σ H R I q => (pi_range1 hgl (g.mgN hy (by decide +kernel)) (pa_cons hb.pe pa_nil (star_cons hn)) (star_cons hn)).run pins s σ H R I ?_⟩
  obtain ⟨F, μ, env, h, r, e, m⟩ := q
  show RD W Z mb σ H fun x H1 => ∃ j : Int, [x] = [.int j] ∧ -(2 ^ 62) ≤ j ∧ j < 2 ^ 62 ∧ R (Itr 0 j.toNat) H1
  refine rd_step r e m fun v h1 F1 μ1 H1 x r1 e1 s1 v1 m1 => ?_
  cases v with
  | int j =>
    have ex : x = .int j := v1
    have m2 : Aft (if rgOk j = true then Out.ok (rngV 0 j.toNat) h1 else .bad) _ _ := m1
    by_cases hj : rgOk j = true
    · rw [if_pos hj] at m2
      obtain ⟨b1, b2⟩ := rgOk_of hj
      exact ⟨j, by rw [ex], b1, b2, m2 F1 μ1 H1 _ r1 s1 (walk_rng 0 j.toNat)⟩
    · rw [if_neg hj] at m2
      exact m2.elim
  | _ => exact m1.elim
theorem snd_irng2 {ma mb : Ev Val} {tg x x2 z : Expr} (hy : Hyp U W L k) (g : Gd W k N sc ow X Z) (hg : gnameIs sc "range" z = true) (hn : notStar x = true) (hn2 : notStar x2 = true) (ha : Snd W X Z ma x) (hb : Snd W X Z mb x2) (pos : Pos) :
    PI X tg (.Call z [x, x2] [] pos) (RDi W Z (rng2M ma mb)) := by
  obtain ⟨p, rfl, hgl, _⟩ := g.gl hg
  have t2 : starEach [x2] X.env = [(false, eval x2 X.env)] := star_cons hn2
  refine ⟨fun pins s σ H R I q => (pi_range2 hgl (g.mgN hy (by decide +kernel)) (pa_cons ha.pe (pa_cons hb.pe pa_nil t2) (star_cons hn)) (by rw [star_cons hn, t2]) t2).run pins s σ H R I ?_⟩
  obtain ⟨F, μ, env, h, r, e, m⟩ := q
  show RD W Z ma σ H fun x H1 => RD W Z mb σ H1 fun y H2 => ∃ i j : Int, [x, y] = [.int i, .int j] ∧ (-(2 ^ 62) ≤ i ∧ i < 2 ^ 62 ∧ -(2 ^ 62) ≤ j ∧ j < 2 ^ 62) ∧ R (Itr i (j - i).toNat) H2
  refine rd_step r e m fun v h1 F1 μ1 H1 x r1 e1 s1 v1 m1 => ?_
  refine rd_step r1 e1 m1 fun w h2 F2 μ2 H2 y r2 e2 s2 v2 m2 => ?_
  cases v with
  | int i =>
    cases w with
    | int j =>
      have ex : x = .int i := v1
      have ey : y = .int j := v2
      have m3 : Aft (if (rgOk i && rgOk j) = true then Out.ok (rngV i (j - i).toNat) h2 else .bad) _ _ := m2
      by_cases hj : (rgOk i && rgOk j) = true
      · rw [if_pos hj] at m3
        obtain ⟨b1, b2⟩ := and2 hj
        obtain ⟨b1, b3⟩ := rgOk_of b1
        obtain ⟨b2, b4⟩ := rgOk_of b2
        exact ⟨i, j, by rw [ex, ey], ⟨b1, b3, b2, b4⟩, m3 F2 μ2 H2 _ r2 (s1.trans s2) (walk_rng i _)⟩
      · rw [if_neg hj] at m3
        exact m3.elim
    | _ => exact m2.elim
  | _ => exact m2.elim
end
end Pyi
set_option Elab.async false
set_option linter.all false
set_option maxRecDepth 100000
set_option maxHeartbeats 2000000
/-! The interpreter is right: reversed tuples, dicts. -/
namespace Pyi
open PySem PySem.Spec PyProof.Rows L2

section
variable {U : Nat → Option FDef} {W : Wd} {L : Lk} {k : Nat} {N : List Str} {sc ow : Scope} {X : Cx} {Z : WX} {F F' : Addr → Prop} {μ μ' : List Addr} {H H' : Hp} {h h' : Hs}
theorem minus_eq {c : Expr} (h : minusOne c = true) : PE X c (tC (.int (-1))) := by
  unfold minusOne at h
  cases e : asUn c with
  | none => rw [e] at h; cases h
  | some t =>
    obtain ⟨o, p⟩ := t
    rw [e] at h
    obtain ⟨h1, h2⟩ := and2 h
    have h1 := of_decide_eq_true h1
    subst h1
    obtain ⟨pos, rfl⟩ := asUn_eq e
    cases e2 : asConst p with
    | none => rw [e2] at h2; cases h2
    | some cc =>
      rw [e2] at h2
      have h2 := of_decide_eq_true h2
      subst h2
      obtain ⟨kk, p2, rfl⟩ := asConst_eq e2
      refine PE.imp (pe_un un_neg pe_int) fun σ H Q q => ?_
      exact ⟨1, rfl, q⟩
theorem snd_rev {ma : Ev Val} {p c : Expr} (g : Gd W k N sc ow X Z) (ha : Snd W X Z ma p) (hc : minusOne c = true) (pos p2 : Pos) :
    Snd W X Z (fun env h => (ma env h).bind fun x h => ofOpt (getR x) h) (.Subscript p (.Slice none none (some c) p2) pos) := by
  refine .of (PE.imp (DTu.pe_back ha.pe (minus_eq hc)) fun σ H Q q => ?_) rfl
  obtain ⟨F, μ, env, h, r, e, m⟩ := q
  show RD W Z ma σ H fun x H1 => V.int (-1) = .int (-1) ∧ ∃ a xs, x = .ref a ∧ SqT X.K H1 a xs ∧ ∀ p, H1 p = none → Q (.ref p) (upd H1 p (.tup xs.reverse))
  refine rd_step r e m fun v h' F1 μ1 H1 x r1 e1 s1 v1 m1 => ⟨rfl, ?_⟩
  obtain ⟨u, eu, kk⟩ := aft_opt m1
  cases v with
  | tup vs =>
    obtain ⟨a, xs, rfl, t, q1, _, _⟩ := seqT v1
    cases eu
    refine ⟨a, xs, rfl, by rw [g.eK]; exact t, fun p np => ?_⟩
    obtain ⟨r2, s2, v2⟩ := newT r1 (RVs.reverse q1) np
    exact kk _ _ _ _ r2 (s1.trans s2) v2
  | _ => cases eu
/-! ### keys -/
theorem keyV_rv (ks : List L2.Key) : RVs W F μ H (ks.map keyV) (ks.map kV) := by
  induction ks with
  | nil => rfl
  | cons a ks ih =>
    refine ⟨kV a, ks.map kV, rfl, ?_, ih⟩
    cases a <;> rfl
theorem veqs_key : ∀ a b : List L2.Key, veqs (a.map keyV) (b.map keyV) = decide (a = b)
  | [], [] => rfl
  | [], _ :: _ => rfl
  | _ :: _, [] => rfl
  | x :: a, y :: b => by
    show (veq (keyV x) (keyV y) && veqs (a.map keyV) (b.map keyV)) = _
    rw [veqs_key a b]
    have e : veq (keyV x) (keyV y) = decide (x = y) := by
      cases x with
      | inl i =>
        cases y with
        | inl j =>
          show (i == j) = _
          by_cases h : i = j
          · subst h; simp
          · simp [h]
        | inr t => rfl
      | inr s =>
        cases y with
        | inl j => rfl
        | inr t =>
          show (s == t) = _
          by_cases h : s = t
          · subst h; simp
          · simp [h]
    rw [e]
    by_cases h1 : x = y
    · subst h1
      by_cases h2 : a = b
      · subst h2; simp
      · simp [h2]
    · simp [h1]
/-- a key's value -/
abbrev keyW (a : List L2.Key) : Val := .tup (a.map keyV)
theorem keyEq_key (a b : List L2.Key) : keyEq (keyW a) (keyW b) = decide (a = b) := veqs_key a b
theorem any_key {α : Type} (kvs : List (List L2.Key × α)) (b : List L2.Key) : (kvs.map fun p => keyW p.1).any (fun x => keyEq x (keyW b)) = kvs.any fun p => decide (p.1 = b) := by
  rw [List.any_map]
  congr 1
  funext p
  exact keyEq_key p.1 b
theorem key_of_T {v : Val} {x : L2.V} (h : keyT v = true) (r : RV W F μ H v x) : ∃ c ks, v = keyW ks ∧ x = .ref c ∧ F c ∧ H c = some (.tup (ks.map kV)) := by
  cases v with
  | tup vs =>
    obtain ⟨c, xs, rfl, f, g, q⟩ := r
    obtain ⟨ns, e⟩ := Option.isSome_iff_exists.mp (show (intsOf vs).isSome = true from h)
    have ex := RVs.ofInts e q
    have ev : vs = ns.map Val.int := by
      clear ex q h g f
      induction vs generalizing ns with
      | nil => cases e; rfl
      | cons v vs ih =>
        cases v with
        | int i =>
          obtain ⟨ms, e1, e2⟩ := Option.map_eq_some_iff.mp (show (intsOf vs).map (i :: ·) = some ns from e)
          subst e2
          rw [ih ms e1]
          rfl
        | _ => cases e
    refine ⟨c, ns.map .inl, ?_, rfl, f, ?_⟩
    · show Val.tup vs = Val.tup _
      rw [ev, List.map_map]
      rfl
    · rw [g, ex, List.map_map]
      rfl
  | _ => cases h
theorem putK_keys {kvs : List (List L2.Key × L2.V)} {b : List L2.Key} {y : L2.V} : (putK kvs b y).map (fun p => keyW p.1) = if (kvs.map fun p => keyW p.1).any (fun x => keyEq x (keyW b)) then kvs.map (fun p => keyW p.1) else kvs.map (fun p => keyW p.1) ++ [keyW b] := by
  rw [any_key]
  unfold putK
  by_cases h : (kvs.any fun p => decide (p.1 = b)) = true
  · rw [if_pos h, if_pos h, List.map_map]
    refine List.map_congr_left fun p _ => ?_
    show keyW (if p.1 = b then (p.1, y) else p).1 = keyW p.1
    split <;> rfl
  · rw [if_neg h, if_neg h, List.map_append]
    rfl
theorem putK_vals {kvs : List (List L2.Key × L2.V)} {b : List L2.Key} {y : L2.V} {vs : List Val} {v : Val} (q : RVs W F μ H vs (kvs.map (·.2))) (r : RV W F μ H v y) :
    RVs W F μ H (dput (kvs.map fun p => keyW p.1) vs (keyW b) v).2 ((putK kvs b y).map (·.2)) := by
  unfold dput putK
  rw [any_key]
  by_cases h : (kvs.any fun p => decide (p.1 = b)) = true
  · rw [if_pos h, if_pos h]
    clear h
    induction kvs generalizing vs with
    | nil => 
      have e : vs = [] := by
        have l := RVs.length q
        exact List.length_eq_zero_iff.mp l
      subst e
      rfl
    | cons p ps ih =>
      cases vs with
      | nil => 
        have q' : (p :: ps).map (·.2) = [] := q
        cases q'
      | cons w ws =>
        obtain ⟨x, xr, ex, q1, q2⟩ := q
        cases ex
        refine ⟨_, _, rfl, ?_, ih q2⟩
        show RV W F μ H (if keyEq (keyW p.1) (keyW b) then v else w) _
        rw [keyEq_key]
        by_cases hp : p.1 = b
        · rw [if_pos (decide_eq_true hp)]
          simp only [if_pos hp]
          exact r
        · rw [if_neg (by simpa using hp)]
          simp only [if_neg hp]
          exact q1
  · rw [if_neg h, if_neg h, List.map_append]
    exact RVs.append q ⟨y, [], rfl, r, rfl⟩
theorem putK_dput {kvs : List (List L2.Key × L2.V)} {b : List L2.Key} {y : L2.V} {vs : List Val} {v : Val} : (dput (kvs.map fun p => keyW p.1) vs (keyW b) v).1 = (putK kvs b y).map (fun p => keyW p.1) := by
  rw [putK_keys]
  unfold dput
  split <;> rfl
theorem firstKs_snoc : ∀ (ks : List Val) (acc : List Val) (b : Val), firstKs acc (ks ++ [b]) = if (firstKs acc ks).any (fun x => keyEq x b) then firstKs acc ks else firstKs acc ks ++ [b]
  | [], acc, b => rfl
  | a :: ks, acc, b => firstKs_snoc ks _ b
theorem firstKs_len : ∀ (ks : List Val) (acc : List Val), (firstKs acc ks).length ≤ acc.length + ks.length
  | [], acc => Nat.le_refl _
  | a :: ks, acc => by
    show (firstKs (if acc.any (fun x => keyEq x a) then acc else acc ++ [a]) ks).length ≤ _
    refine Nat.le_trans (firstKs_len ks _) ?_
    split
    · rw [List.length_cons]; omega
    · rw [List.length_append, List.length_cons, List.length_cons]; simp; omega
theorem ownD_some0 {env : Env} {i : Nat} {x : List Val × List Val} (h : ownDL env i = some x) : env[i]? = some (some (.ownD x.1 x.2)) := by
  unfold ownDL at h
  cases e : env[i]? with
  | none => rw [e] at h; cases h
  | some o =>
    rw [e] at h
    cases o with
    | none => cases h
    | some s => cases s <;> cases h; rfl
/-! ### list(d.items()) -/
theorem RVs.ofGet : ∀ {vs : List Val} {xs : List L2.V}, vs.length = xs.length → (∀ (j : Nat) v x, vs[j]? = some v → xs[j]? = some x → RV W F μ H v x) → RVs W F μ H vs xs
  | [], [], _, _ => rfl
  | [], _ :: _, h, _ => by cases h
  | _ :: _, [], h, _ => by cases h
  | v :: vs, x :: xs, h, q => ⟨x, xs, rfl, q 0 v x rfl rfl, RVs.ofGet (Nat.succ.inj h) fun j v x e1 e2 => q (j + 1) v x e1 e2⟩
theorem zipV_get : ∀ {xs ys : List Val} {j : Nat} {v : Val}, (zipV xs ys)[j]? = some v → ∃ a b, xs[j]? = some a ∧ ys[j]? = some b ∧ v = .tup [a, b]
  | [], _, _, _, e => by
    have e : ([] : List Val)[_]? = some _ := e
    simp at e
  | _ :: _, [], _, _, e => by
    have e : ([] : List Val)[_]? = some _ := e
    simp at e
  | x :: xs, y :: ys, 0, v, e => by
    cases e
    exact ⟨x, y, rfl, rfl, rfl⟩
  | x :: xs, y :: ys, j + 1, v, e => zipV_get (xs := xs) (ys := ys) (j := j) e
theorem zipV_len : ∀ {xs ys : List Val}, xs.length = ys.length → (zipV xs ys).length = xs.length
  | [], [], _ => rfl
  | [], _ :: _, h => by cases h
  | _ :: _, [], h => by cases h
  | _ :: xs, _ :: ys, h => congrArg Nat.succ (zipV_len (Nat.succ.inj h))
theorem snd_items {i : Nat} {x y : Expr} {ap cp pos : Pos} (hy : Hyp U W L k) (g : Gd W k N sc ow X Z) (hg : gnameIs sc "list" y = true) (hx : nameIs N sc i x = true) (hl : (ap.endLine == cp.line) = true) :
    PE X (.Call y [.Call (.Attribute x "items" ap) [] [] cp] [] pos) (RDf W Z fun env h => (ofOpt (ownDL env i) h).bind fun d h => .ok (zipV d.1 d.2) h) := by
  obtain ⟨p, rfl, hgl, hdb⟩ := g.gl hg
  obtain ⟨z, p2, rfl, hN, hv, h1, h2⟩ := g.vis hx
  refine PE.imp (pe_callTy (DTu.call_items2 g.calm) hgl (g.mgN hy (by decide +kernel)) boot_L (pa_cons (pe_bm0 PySem.F.plainAttrs_dict PySem.F.slot_dict_items PySem.F.type_dict_items DX.mt_itemsT (pe_var hN hv h1 h2) (by rfl) hl) pa_nil (star_cons rfl)) (by decide) hdb (star_cons rfl) (star_plain rfl)) fun σ H Q q => ?_
  obtain ⟨F, μ, env, h, r, e, a⟩ := q
  dsimp only at a
  cases ho : ownDL env i with
  | none =>
    rw [ho] at a
    exact a.elim
  | some d =>
    rw [ho] at a
    obtain ⟨v, e1, b, kvs, rfl, gb, nfb, nmb, ek, rv⟩ := e.sl i _ (ownD_some0 ho)
    refine ⟨.ref b, e1, .inr (.inr (.inl ⟨rfl, .inr ⟨kvs, gb⟩⟩)), b, kvs, rfl, rfl, gb, fun p np => ?_⟩
    have npb : b ≠ p := fun z => by rw [z, np] at gb; cases gb
    refine ⟨p, b, kvs, rfl, upd_same, (upd_ne npb).trans gb, fun G l ts keep nl nts lts nd len gl items => ?_⟩
    have up : ∀ {c : Addr}, c ≠ p → (upd H p (DX.itemsO p b)) c = H c := fun {c} z => upd_ne z
    have lnp : l ≠ p := fun z => by rw [z, upd_same] at nl; cases nl
    have hl0 : H l = none := (up lnp).symm.trans nl
    have tn : ∀ t ∈ ts, H t = none := fun t ht => by
      have z := nts t ht
      have : t ≠ p := fun y => by rw [y, upd_same] at z; cases z
      exact (up this).symm.trans z
    have kp : ∀ c o, H c = some o → G c = some o := fun c o e => keep c o ((up (fun z => by rw [z, np] at e; cases e)).trans e)
    let F' : Addr → Prop := fun c => F c ∨ c ∈ ts ∨ ∃ ns : List L2.Key, H c = some (.tup (ns.map kV))
    have fzH : ∀ c, F c → G c = H c := fun c f => by
      cases hc : H c with
      | none => exact absurd hc (r.lf c f)
      | some o => exact kp c o hc
    have mu0 : ∀ c, c ∈ μ → ∀ xs, H c ≠ some (.tup xs) := fun c hc xs z => by
      obtain ⟨n, hn⟩ := List.getElem?_of_mem hc
      have hlt : n < h.length := by rw [← r.len]; exact (List.getElem?_eq_some_iff.mp hn).1
      have q := r.ob n _ c (List.getElem?_eq_getElem hlt) hn
      generalize h[n] = ob at q
      cases ob with
      | lst vs =>
        obtain ⟨ys, g, _⟩ := q
        rw [g] at z
        cases z
      | ins cc ns vs =>
        obtain ⟨dx, fs, g, _⟩ := q
        rw [g] at z
        cases z
    have muG : ∀ c, c ∈ μ → G c = H c := fun c hc => by
      cases hh : H c with
      | none => exact absurd hh (r.lm c hc)
      | some o => exact kp c o hh
    have mon : Mon F μ H F' μ G := ⟨fun _ f => .inl f, fun _ _ z => z, fzH⟩
    have r2 : RSt W F' μ G h := {
      len := r.len
      nd := r.nd
      ob := fun n o c h1 h2 => RObj.mon mon (muG c (List.mem_of_getElem? h2)) (r.ob n o c h1 h2)
      nf := fun c hc f => by
        rcases f with f | f | ⟨ns, f⟩
        · exact r.nf c hc f
        · exact r.lm c hc (tn c f)
        · exact mu0 c hc _ f
      lm := fun c hc => by rw [muG c hc]; exact r.lm c hc
      lf := fun c f => by
        rcases f with f | f | ⟨ns, f⟩
        · rw [fzH c f]; exact r.lf c f
        · obtain ⟨j, hj, ej⟩ := List.mem_iff_getElem.mp f
          obtain ⟨q, bb, _, _, e3⟩ := items j c (by rw [List.getElem?_eq_getElem hj, ej])
          rw [e3]
          exact fun z => by cases z
        · rw [kp c _ f]
          exact fun z => by cases z }
    have s2 : Stp F μ H F' μ G := {
      f := fun _ f => .inl f
      m := ⟨[], (List.append_nil μ).symm⟩
      fz := fzH
      keep := fun c o e _ => kp c o e
      fn := fun c f => by
        rcases f with f | f | ⟨ns, f⟩
        · exact .inl f
        · exact .inr (.inl (tn c f))
        · exact .inr (.inr ⟨⟨_, f⟩, fun hc => mu0 c hc _ f⟩)
      mn := fun _ f => .inl f
      lv := fun c e => by
        cases hh : H c with
        | none => exact absurd hh e
        | some o => rw [kp c o hh]; exact fun z => by cases z }
    have nfl : ¬ F' l := fun f => by
      rcases f with f | f | ⟨ns, f⟩
      · exact r.lf l f hl0
      · exact lts f
      · rw [hl0] at f; cases f
    have a' : ∀ F' μ' H' x, RSt W F' μ' H' h → Stp F μ H F' μ' H' → Fresh W H F' μ' H' (zipV d.1 d.2) x → Q x H' := a
    refine a' F' μ G (.ref l) r2 s2 ⟨l, ts.map V.ref, rfl, hl0, nfl, fun hm => r.lm l hm hl0, gl, ?_⟩
    have lk : d.1.length = kvs.length := by rw [ek, List.length_map]
    have lv : d.2.length = kvs.length := by rw [RVs.length rv, List.length_map]
    refine RVs.ofGet (by rw [zipV_len (lk.trans lv.symm), List.length_map, len, lk]) fun j v x ev ex => ?_
    obtain ⟨kj, vj, g1, g2, rfl⟩ := zipV_get ev
    obtain ⟨t, ht, et⟩ := Option.map_eq_some_iff.mp (by rw [← List.getElem?_map]; exact ex)
    subst et
    obtain ⟨q, bb, e3, e4, e5⟩ := items j t ht
    have e4' : H bb = some (.tup (q.1.map kV)) := by
      by_cases z : bb = p
      · rw [z, upd_same] at e4
        cases e4
      · exact (up z).symm.trans e4
    rw [ek, List.getElem?_map, e3] at g1
    have g1' := Option.some.inj g1
    obtain ⟨y, gy, ry⟩ := RVs.get rv g2
    rw [List.getElem?_map, e3] at gy
    cases gy
    refine ⟨t, [.ref bb, q.2], rfl, .inr (.inl (List.mem_of_getElem? ht)), e5, .ref bb, _, rfl, ?_, q.2, [], rfl, RV.mon mon _ _ ry, rfl⟩
    rw [← g1']
    exact ⟨bb, q.1.map kV, rfl, .inr (.inr ⟨_, e4'⟩), kp _ _ e4', keyV_rv q.1⟩
/-! ### len({k: True for .. in ..}) -/
def lenM (mi : Ev (List Val)) (tg : Tg) (mk : Ev Val) : Ev Val := fun env h => (mi env h).bind fun xs h =>
  if decide (xs.length ≤ most) then
    (mapF (fun x h => (ofOpt (bindT tg x (wipeE env tg.slots)) h).bind fun env' h =>
      (mk env' h).bind fun y h => if keyT y then .ok (some y) h else .bad) xs h).bind fun ks h => .ok (.int (firstKs [] ks).length) h
  else .bad
structure DcInv (W : Wd) (D : Addr) (F1 : Addr → Prop) (μ1 : List Addr) (H1 : Hp) (G : Val → Hs → Out (Option Val)) (xs : List Val) (Good : List Val → Hs → Prop) (i m : Nat) (Hc : Hp) : Prop where
  me : m = xs.length - i
  le : i ≤ xs.length
  ex : ∃ Fc μc hc ws, ∃ kvs : List (List L2.Key × L2.V), RSt W Fc μc Hc hc ∧ Stp F1 μ1 H1 Fc μc Hc ∧ ¬ Fc D ∧ D ∉ μc ∧ Hc D = some (.dT kvs) ∧ (kvs.map fun p => keyW p.1) = firstKs [] ws ∧ ws.length ≤ i ∧
    Aft (mapF G (xs.drop i) hc) (fun r h' => Good (ws ++ r) h') (fun _ _ _ => True)
theorem snd_lenDC {tgx iter kx vx y : Expr} {scope : Scope} {own : List (Str × Nat)} {pos pos2 : Pos} {mi : Ev (List Val)} {mk : Ev Val} {tg : Tg} (hy : Hyp U W L k) (g : Gd W k N sc ow X Z) (hgy : gnameIs sc "len" y = true) (hi : PI X tgx iter (RDi W Z mi)) (ok : BlkOk X.N X.env.scope scope own) (hsl : own.map (·.2) = tg.slots)
    (hg : ∀ (s : Shared) (H : Hp) (C : Addr) (cl : List (Str × Addr)) (fp : List Addr), PG (X.blk s H scope (compEnvC scope cl C X.env) fp) tgx (gG W tg))
    (hk : ∀ (s : Shared) (H : Hp) (C : Addr) (cl : List (Str × Addr)) (fp : List Addr), PE (X.blk s H scope (compEnvC scope cl C X.env) fp) kx (RD W Z0 mk)) (hv : asConst vx = some (.bool true)) (hs : ∀ x, foldedSetIterable iter X.env x = pure x) :
    Snd W X Z (lenM mi tg mk) (.Call y [.DictComp kx vx [⟨tgx, iter, [], 0⟩] scope pos2] [] pos) := by
  obtain ⟨p, rfl, hgl, hdb⟩ := g.gl hgy
  obtain ⟨kk, vp, rfl⟩ := asConst_eq hv
  have hu : X.A.units + 1 < cLine := Nat.lt_of_le_of_lt (by omega) g.units
  have hd := DTu.pe_dcT (tt := tYes) (tk := RD W Z0 mk) (tv := tC (.bl true)) hu g.calm g.nd hi ok hg (fun s H C cl fp => pts_nil) hk (fun s H C cl fp => pe_bl (b := true) (j := kk) (pos := vp)) hs (pos := pos2)
  refine .of (PE.imp (pe_callB call_len_dT hgl (g.mgN hy (by decide +kernel)) (by decide +kernel) (pa_cons hd pa_nil (star_cons rfl)) (by decide) hdb (star_cons rfl) (star_plain rfl)) fun σ H Q q => ?_) rfl
  obtain ⟨F, μ, env, h, r, e, a⟩ := q
  unfold lenM at a
  show RDi W Z mi σ H _
  refine rd_step r e a fun xs h1 F1 μ1 H1 J r1 e1 s1 wk a1 => ?_
  intro D nD
  by_cases hlen : decide (xs.length ≤ most) = true
  · rw [if_pos hlen] at a1
    have hlen' : xs.length ≤ most := of_decide_eq_true hlen
    generalize hG : (fun x h => (ofOpt (bindT tg x (wipeE env tg.slots)) h).bind fun env' h => (mk env' h).bind fun y h => if keyT y then Out.ok (some y) h else .bad : Val → Hs → Out (Option Val)) = G at a1
    generalize hGood : (fun (v : List Val) (h' : Hs) => ∀ (F' : Addr → Prop) (μ' : List Addr) (H' : Hp) (x : L2.V), RSt W F' μ' H' h' → Stp F μ H F' μ' H' → RV W F' μ' H' (.int (firstKs [] v).length) x → Q x H') = Good
    have a2 : Aft (mapF G xs h1) Good (fun _ _ _ => True) := by
      cases hm : mapF G xs h1 with
      | ok v h2 =>
        rw [hm] at a1
        rw [← hGood]
        exact a1
      | exc _ _ _ => trivial
      | bad =>
        rw [hm] at a1
        exact a1
    refine ⟨DcInv W D F1 μ1 H1 G xs Good, ⟨xs.length, by simp, Nat.zero_le _, F1, μ1, h1, [], [], r1.fresh nD, Stp.fresh nD (r1.notF nD), r1.notF nD, r1.notM nD, upd_same, rfl, Nat.le_refl _, a2⟩, fun i m Hc iv => ?_⟩
    obtain ⟨em, le, Fc, μc, hc', ws, kvs, rc, sc, nfD, nmD, gD, hks, hwl, ac⟩ := iv
    have w1 := wk Fc μc Hc hc' rc sc.mon
    by_cases hie : i = xs.length
    · subst hie
      refine .inl ⟨w1.2, D, kvs, rfl, gD, ?_⟩
      rw [List.drop_length] at ac
      have fin : Good (ws ++ []) hc' := ac
      rw [List.append_nil, ← hGood] at fin
      refine fin Fc μc Hc _ rc (s1.trans sc) ?_
      show V.int _ = V.int _
      rw [← hks, List.length_map]
    · have hlt : i < xs.length := by omega
      have hv : xs[i]? = some xs[i] := List.getElem?_eq_getElem hlt
      rw [drop_cons hv] at ac
      obtain ⟨o, h2, eG, ac2⟩ := mapF_step ac
      rw [← hG] at eG
      obtain ⟨env', h3, eb0, eG⟩ := bind_ok eG
      obtain ⟨eb, eh⟩ := opt_ok eb0
      subst eh
      obtain ⟨v5, h4, ec, eG⟩ := bind_ok eG
      obtain ⟨go, yl⟩ := w1.1 i xs[i] hv
      refine .inr ⟨go, DcInv W D F1 μ1 H1 G xs Good (i + 1) (xs.length - (i + 1)), fun H' q => ⟨xs.length - (i + 1), by omega, q⟩, fun y H' hy => ?_⟩
      obtain ⟨F2, r2, s2, v2⟩ := yl y H' hy
      have sc2 := sc.trans s2
      rw [hsl]
      refine ⟨F2, μc, wipeE env tg.slots, hc', xs[i], env', r2, (e1.mono sc2).wipe tg.slots, v2, eb, fun σ' e2 n2 l2 o2 => ⟨wipe_ext (l2.trans (L2.wipe_length σ _)) n2, ?_⟩⟩
      unfold tYes
      simp only [if_true]
      refine ⟨F2, μc, env', hc', r2, e2, ?_⟩
      rw [ec]
      intro F6 μ6 H6 z r6 s6 v6
      by_cases kt : keyT v5 = true
      · rw [if_pos kt] at eG
        cases eG
        have sAll : Stp Fc μc Hc F6 μ6 H6 := s2.trans s6
        have gD6 : H6 D = some (.dT kvs) := sAll.keep D _ gD nmD
        have nfD6 : ¬ F6 D := fun z => by
          rcases sAll.fn D z with z | z | ⟨⟨_, z⟩, _⟩
          · exact nfD z
          · rw [gD] at z; cases z
          · rw [gD] at z; cases z
        have nmD6 : D ∉ μ6 := fun z => by
          rcases sAll.mn D z with z | z
          · exact nmD z
          · rw [gD] at z; cases z
        obtain ⟨c, ks, ev, rfl, fc, gc⟩ := key_of_T kt v6
        have lk : kvs.length ≤ most := by
          have l1 : kvs.length = (firstKs [] ws).length := by rw [← hks, List.length_map]
          have l2 := firstKs_len ws []
          simp at l2
          omega
        refine ⟨kvs, ks, c, rfl, gc, gD6, Nat.lt_of_le_of_lt lk (by rw [sizeLine_eq]; decide), rfl, hlt, F6, μ6, h2, ws ++ [v5], putK kvs ks (.bl true), r6.out nfD6 nmD6,
          Stp.again r1 (sc.trans sAll) nD nfD6 (by rw [gD6]; exact fun q => by cases q), nfD6, nmD6, upd_same, ?_, by rw [List.length_append]; exact Nat.succ_le_succ hwl, ?_⟩
        · rw [putK_keys, hks, firstKs_snoc, ev]
        · have ac3 : Aft (mapF G (xs.drop (i + 1)) h2) (fun r h' => Good (ws ++ v5 :: r) h') (fun _ _ _ => True) := ac2
          have ee : (fun (r : List Val) (h' : Hs) => Good (ws ++ [v5] ++ r) h') = fun r h' => Good (ws ++ v5 :: r) h' := by
            funext r h'
            rw [List.append_assoc]
            rfl
          rw [ee]
          exact ac3
      · rw [if_neg kt] at eG
        cases eG
  · rw [if_neg hlen] at a1
    exact a1.elim
end
end Pyi
set_option Elab.async false
set_option linter.all false
set_option maxRecDepth 100000
set_option maxHeartbeats 2000000
/-! The interpreter is right: all expressions, by the look at the text. -/
namespace Pyi
open PySem PySem.Spec PyProof.Rows L2

section
variable {U : Nat → Option FDef} {W : Wd} {L : Lk} {k : Nat} {N : List Str} {sc ow : Scope} {X : Cx} {Z : WX}
/-! ### names -/
theorem var_some {env : Env} {i : Nat} {x : Val} (h : varV env i = some x) : env[i]? = some (some (.v x)) := by
  unfold varV at h
  cases e : env[i]? with
  | none => rw [e] at h; cases h
  | some o =>
    rw [e] at h
    cases o with
    | none => cases h
    | some s => cases s <;> cases h; rfl
theorem own_some {env : Env} {i : Nat} {x : List Val} (h : ownL env i = some x) : env[i]? = some (some (.own x)) := by
  unfold ownL at h
  cases e : env[i]? with
  | none => rw [e] at h; cases h
  | some o =>
    rw [e] at h
    cases o with
    | none => cases h
    | some s => cases s <;> cases h; rfl
theorem ownD_some {env : Env} {i : Nat} {x : List Val × List Val} (h : ownDL env i = some x) : env[i]? = some (some (.ownD x.1 x.2)) := by
  unfold ownDL at h
  cases e : env[i]? with
  | none => rw [e] at h; cases h
  | some o =>
    rw [e] at h
    cases o with
    | none => cases h
    | some s => cases s <;> cases h; rfl
theorem snd_var {i : Nat} {x : Expr} (g : Gd W k N sc ow X Z) (h : nameIs N sc i x = true) : Snd W X Z (fun env h => ofOpt (varV env i) h) x := by
  obtain ⟨y, p, rfl, hN, hv, h1, h2⟩ := g.vis h
  refine .of (PE.imp (pe_var hN hv h1 h2) fun σ H Q q => ?_) rfl
  obtain ⟨F, μ, env, h, r, e, a⟩ := q
  obtain ⟨v, ev, kk⟩ := aft_opt a
  obtain ⟨z, e1, q1⟩ := e.sl i _ (var_some ev)
  exact ⟨z, e1, kk F μ H z r Stp.refl q1⟩
theorem snd_glb {y : Str} {l : Lit} {x : Expr} (hy : Hyp U W L k) (g : Gd W k N sc ow X Z) (h : gnameIs sc y x = true) (hl : L.gl y = some l) : Snd W X Z (fun _ h => .ok l.val h) x := by
  obtain ⟨p, rfl, hgl, hdb⟩ := g.gl h
  obtain ⟨u, hm, rv⟩ := hy.glob y l hl
  refine .of (PE.imp (pe_glob hgl (by rw [g.emg]; exact hm) rv hdb) fun σ H Q q => ?_) rfl
  obtain ⟨F, μ, env, h, r, e, a⟩ := q
  exact a F μ H _ r Stp.refl (lit_rv l)
theorem snd_olen {i : Nat} {x y : Expr} (hy : Hyp U W L k) (g : Gd W k N sc ow X Z) (hg : gnameIs sc "len" y = true) (hx : nameIs N sc i x = true) (pos : Pos) :
    Snd W X Z (fun env h => (ofOpt (ownL env i) h).bind fun vs h => .ok (.int vs.length) h) (.Call y [x] [] pos) := by
  obtain ⟨p, rfl, hgl, hdb⟩ := g.gl hg
  obtain ⟨z, p2, rfl, hN, hv, h1, h2⟩ := g.vis hx
  refine .of (PE.imp (pe_callB call_len hgl (g.mgN hy (by decide +kernel)) (by decide +kernel) (pa_cons (pe_var hN hv h1 h2) pa_nil (star_cons rfl)) (by decide) hdb (star_cons rfl) (star_plain rfl)) fun σ H Q q => ?_) rfl
  obtain ⟨F, μ, env, h, r, e, a⟩ := q
  dsimp only at a
  cases ho : ownL env i with
  | none =>
    rw [ho] at a
    exact a.elim
  | some vs =>
    rw [ho] at a
    obtain ⟨v, e1, b, ys, rfl, gb, rv, _, _⟩ := e.sl i _ (own_some ho)
    exact ⟨.ref b, e1, .ref b, vs.length, rfl, .inl ⟨ys, SqL.of gb, RVs.length rv⟩, a F μ H _ r Stp.refl rfl⟩
theorem snd_oidx {i : Nat} {m : Ev Val} {x y : Expr} (g : Gd W k N sc ow X Z) (hx : nameIs N sc i x = true) (hs : notSlice y = true) (hm : Snd W X Z m y) (pos : Pos) :
    Snd W X Z (fun env h => (ofOpt (ownL env i) h).bind fun vs h => (m env h).bind fun y h => ofOpt ((asI y).bind fun k => atI vs k) h) (.Subscript x y pos) := by
  obtain ⟨z, p2, rfl, hN, hv, h1, h2⟩ := g.vis hx
  refine .of (PE.imp (pe_ix ix_list (pe_var hN hv h1 h2) hm.pe (sub_plain hs)) fun σ H Q q => ?_) rfl
  obtain ⟨F, μ, env, h, r, e, a⟩ := q
  dsimp only at a
  cases ho : ownL env i with
  | none =>
    rw [ho] at a
    exact a.elim
  | some vs =>
    rw [ho] at a
    obtain ⟨v, e1, b, ys, rfl, _, _, _, _⟩ := e.sl i _ (own_some ho)
    refine ⟨.ref b, e1, ?_⟩
    refine rd_step r e a fun w h1 F1 μ1 H1 y r1 e1' s1 v1 a1 => ?_
    obtain ⟨u, eu, kk⟩ := aft_opt a1
    obtain ⟨v2, e2, b2, ys2, rfl, gb, rv, _, _⟩ := e1'.sl i _ (own_some ho)
    rw [e1] at e2
    cases e2
    cases w with
    | int j =>
      obtain ⟨z, ez, rz⟩ := atI_rel rv (show Pyi.atI vs j = some u from eu)
      exact ⟨b, ys2, j, z, rfl, v1, SqL.of gb, ez, kk F1 μ1 H1 z r1 s1 rz⟩
    | _ => cases eu
/-! ### targets -/
mutual
theorem sndT : ∀ (t : Tg) (x : Expr), Gd W k N sc ow X Z → chkT N ow t x = true → PG X x (gG W t)
  | .v i, x, g, h => by
    have h' : (match asName x with
      | some y => decide (N[i]? = some y) && locB ow y
      | none => false) = true := h
    cases e : asName x with
    | none => rw [e] at h'; cases h'
    | some y =>
      rw [e] at h'
      obtain ⟨p, rfl⟩ := asName_eq e
      obtain ⟨h1, h2⟩ := and2 h'
      obtain ⟨l1, l2⟩ := g.st y h2
      exact pg_v g.nd (by rw [g.eN]; exact of_decide_eq_true h1) l1 l2
  | .t l, x, g, h => by
    have h' : (match asTup x with
      | some es => es.all notStar && chkTs N ow l es
      | none => false) = true := h
    cases e : asTup x with
    | none => rw [e] at h'; cases h'
    | some es =>
      rw [e] at h'
      obtain ⟨kk, p, rfl⟩ := asTup_eq e
      obtain ⟨h1, h2⟩ := and2 h'
      obtain ⟨q1, q2, q3⟩ := sndTs l es g h2
      exact pg_t g.calm g.eK q1 q2 q3
theorem sndTs : ∀ (ts : List Tg) (xs : List Expr), Gd W k N sc ow X Z → chkTs N ow ts xs = true → PGs X xs (gGs W ts) ∧ (assignEach xs X.env).length = ts.length ∧ (assignEach xs X.env).findIdx? (·.1) = none
  | [], xs, g, h => by
    cases xs with
    | nil => exact ⟨pgs_0, rfl, rfl⟩
    | cons _ _ => cases h
  | t :: ts, xs, g, h => by
    cases xs with
    | nil => cases h
    | cons x xs =>
      obtain ⟨h1, h2⟩ := and2 (show (chkT N ow t x && chkTs N ow ts xs) = true from h)
      obtain ⟨q1, q2, q3⟩ := sndTs ts xs g h2
      have q0 := sndT t x g h1
      have hx : assignEach (x :: xs) X.env = (false, assign x X.env) :: assignEach xs X.env := by
        cases t with
        | v i =>
          have h' : (match asName x with
            | some y => decide (N[i]? = some y) && locB ow y
            | none => false) = true := h1
          cases e : asName x with
          | none => rw [e] at h'; cases h'
          | some y =>
            obtain ⟨p, rfl⟩ := asName_eq e
            rfl
        | t l =>
          have h' : (match asTup x with
            | some es => es.all notStar && chkTs N ow l es
            | none => false) = true := h1
          cases e : asTup x with
          | none => rw [e] at h'; cases h'
          | some es =>
            obtain ⟨kk, p, rfl⟩ := asTup_eq e
            rfl
      refine ⟨pgs_1 q0 q1 (by rw [hx]; rfl), by rw [hx, List.length_cons, List.length_cons, q2], ?_⟩
      rw [hx, List.findIdx?_cons]
      simp [q3]
end
/-! ### the place of a comprehension -/
theorem rel_look {scope sc : Scope} {x : Str} {kd : NameKind} (h : scope.names.lookup x = some kd) (hk : kd ≠ .free) : (relS scope sc).names.lookup x = some kd := by
  unfold relS
  show List.lookup x (scope.names.map _) = _
  generalize scope.names = l at h
  induction l with
  | nil => cases h
  | cons y ys ih =>
    obtain ⟨n, k⟩ := y
    rw [List.lookup_cons] at h
    rw [List.map_cons]
    by_cases hn : (x == n) = true
    · rw [hn] at h
      cases h
      have : (kd == NameKind.free) = false := by
        cases kd <;> first | rfl | exact absurd rfl hk
      simp only [this, Bool.false_and]
      rw [List.lookup_cons]
      simp [hn]
    · have hn' : (x == n) = false := by simpa using hn
      rw [hn'] at h
      rw [List.lookup_cons]
      split
      · rename_i h2
        split at h2 <;> (rw [hn'] at h2; cases h2)
      · exact ih h
theorem tk0 {X : Cx} : Takes X Z0 := fun u s' ⟨a, B, sI, pins, σ, H, cls, d, e, I, nb, up, sky, na, os, ag, w⟩ => w.elim
theorem Gd.blk (g : Gd W k N sc ow X Z) {scope : Scope} (s : Shared) (H : Hp) (C : Addr) (cl : List (Str × Addr)) (fp : List Addr) : Gd W k N (relS scope sc) scope (X.blk s H scope (compEnvC scope cl C X.env) fp) Z0 where
  eP := g.eP
  ew := g.ew
  eK := g.eK
  emg := g.emg
  ebase := g.ebase
  eN := g.eN
  nd := g.nd
  sc := by
    show (compEnvC scope cl C X.env).scope = _
    rw [← g.sc]
    rfl
  calm := g.calm
  st := fun x hx => by
    unfold locB at hx
    show Loc (compEnvC scope cl C X.env).scope x ∧ ((scope.names.lookup x == some .cell) = true ∨ (compEnvC scope cl C X.env).scope.names.lookup x = some .local)
    have es : (compEnvC scope cl C X.env).scope = relS scope X.env.scope := rfl
    rw [es]
    cases e : scope.names.lookup x with
    | none => rw [e] at hx; cases hx
    | some kd =>
      rw [e] at hx
      cases kd with
      | «local» =>
        have r := rel_look (sc := X.env.scope) e (by decide)
        exact ⟨.inl r, .inr r⟩
      | cell =>
        have r := rel_look (sc := X.env.scope) e (by decide)
        exact ⟨.inr r, .inl rfl⟩
      | free => cases hx
      | globalExplicit => cases hx
      | globalImplicit => cases hx
  rm := g.rm
  tk := tk0
/-! ### the recursion -/
theorem evEs_len {cf : Nat → List Val → Hs → Out Val} : ∀ (es : List E) (env : Env) (h : Hs) (vs : List Val) (h' : Hs), evEs cf es env h = .ok vs h' → vs.length = es.length
  | [], _, _, _, _, e => by cases e; rfl
  | x :: es, env, h, vs, h', e => by
    obtain ⟨v, h1, _, e2⟩ := bind_ok (show (evE cf x env h).bind (fun x h => (evEs cf es env h).bind fun r h => .ok (x :: r) h) = .ok vs h' from e)
    obtain ⟨r, h2, e3, e4⟩ := bind_ok e2
    cases e4
    rw [List.length_cons, List.length_cons, evEs_len es env h1 r _ e3]
theorem chkEs_len {L : Lk} {N : List Str} : ∀ (es : List E) (sc ow : Scope) (xs : List Expr), chkEs L N es sc ow xs = true → xs.length = es.length
  | [], sc, ow, xs, h => by
    cases xs with
    | nil => rfl
    | cons _ _ => cases h
  | e :: es, sc, ow, xs, h => by
    cases xs with
    | nil => cases h
    | cons x xs =>
      obtain ⟨_, h2⟩ := and2 (show (notStar x && chkE L N e sc ow x && chkEs L N es sc ow xs) = true from h)
      rw [List.length_cons, List.length_cons, chkEs_len es sc ow xs h2]
theorem ownOf_snd (N : List Str) (is : List Nat) : (ownOf N is).map (·.2) = is := by
  induction is with
  | nil => rfl
  | cons i is ih =>
    show i :: (ownOf N is).map (·.2) = i :: is
    rw [ih]
mutual
theorem sndE (hy : Hyp U W L k) : ∀ (e : E) {sc ow : Scope} {X : Cx} {Z : WX} (x : Expr), Gd W k N sc ow X Z → chkE L N e sc ow x = true → Snd W X Z (evE (callD U k) e) x
  | .lit l, sc, ow, X, Z, x, g, h => by
    have h' : (match asConst x with
      | some c => decide (c = l.const)
      | none => false) = true := h
    cases e : asConst x with
    | none => rw [e] at h'; cases h'
    | some c =>
      rw [e] at h'
      exact snd_lit l e (of_decide_eq_true h')
  | .glb y l, sc, ow, X, Z, x, g, h => by
    obtain ⟨h1, h2⟩ := and2 (show (gnameIs sc y x && decide (L.gl y = some l)) = true from h)
    exact snd_glb hy g h1 (of_decide_eq_true h2)
  | .var i, sc, ow, X, Z, x, g, h => snd_var g h
  | .bin o a b, sc, ow, X, Z, x, g, h => by
    have h' : (match asBin x with
      | some (p, o', q) => decide (o' = opB o) && chkE L N a sc ow p && chkE L N b sc ow q
      | none => false) = true := h
    cases e : asBin x with
    | none => rw [e] at h'; cases h'
    | some t =>
      obtain ⟨p, o', q⟩ := t
      rw [e] at h'
      obtain ⟨h0, h2⟩ := and2 h'
      obtain ⟨h0, h1⟩ := and2 h0
      have h0 := of_decide_eq_true h0
      subst h0
      obtain ⟨pos, rfl⟩ := asBin_eq e
      exact snd_bin g o (sndE hy a p g h1) (sndE hy b q g h2) pos
  | .neg a, sc, ow, X, Z, x, g, h => by
    have h' : (match asUn x with
      | some (o, p) => decide (o = .USub) && chkE L N a sc ow p
      | none => false) = true := h
    cases e : asUn x with
    | none => rw [e] at h'; cases h'
    | some t =>
      obtain ⟨o', p⟩ := t
      rw [e] at h'
      obtain ⟨h0, h1⟩ := and2 h'
      have h0 := of_decide_eq_true h0
      subst h0
      obtain ⟨pos, rfl⟩ := asUn_eq e
      exact snd_neg (sndE hy a p g h1) pos
  | .not_ a, sc, ow, X, Z, x, g, h => by
    have h' : (match asUn x with
      | some (o, p) => decide (o = .Not) && notIf p && chkE L N a sc ow p
      | none => false) = true := h
    cases e : asUn x with
    | none => rw [e] at h'; cases h'
    | some t =>
      obtain ⟨o', p⟩ := t
      rw [e] at h'
      obtain ⟨h0, h2⟩ := and2 h'
      obtain ⟨h0, h1⟩ := and2 h0
      have h0 := of_decide_eq_true h0
      subst h0
      obtain ⟨pos, rfl⟩ := asUn_eq e
      exact snd_not (sndE hy a p g h2) h1 pos
  | .and_ a b, sc, ow, X, Z, x, g, h => by
    have h' : (match asBool x with
      | some (o, es, pos) => match es with
        | p :: q :: r => decide (o = .And) && notIf p && chkE L N a sc ow p && (match r with
          | [] => notIf q && chkE L N b sc ow q
          | _ :: _ => chkE L N b sc ow (.BoolOp .And (q :: r) pos))
        | _ => false
      | none => false) = true := h
    cases e : asBool x with
    | none => rw [e] at h'; cases h'
    | some t =>
      obtain ⟨o', es, pos⟩ := t
      rw [e] at h'
      have hx := asBool_eq e
      match es, h', hx with
      | [], h', _ => cases h'
      | [_], h', _ => cases h'
      | p :: q :: r, h', hx =>
        obtain ⟨h0, h3⟩ := and2 h'
        obtain ⟨h0, h2⟩ := and2 h0
        obtain ⟨h0, h1⟩ := and2 h0
        have h0 := of_decide_eq_true h0
        subst h0
        subst hx
        refine snd_and (sndE hy a p g h2) h1 ?_
        match r, h3 with
        | [], h3 =>
          obtain ⟨h4, h5⟩ := and2 h3
          exact .inl ⟨rfl, h4, sndE hy b q g h5⟩
        | z :: r, h3 => exact .inr ⟨by simp, sndE hy b _ g h3⟩
  | .or_ a b, sc, ow, X, Z, x, g, h => by
    have h' : (match asBool x with
      | some (o, es, pos) => match es with
        | p :: q :: r => decide (o = .Or) && notIf p && chkE L N a sc ow p && (match r with
          | [] => notIf q && chkE L N b sc ow q
          | _ :: _ => chkE L N b sc ow (.BoolOp .Or (q :: r) pos))
        | _ => false
      | none => false) = true := h
    cases e : asBool x with
    | none => rw [e] at h'; cases h'
    | some t =>
      obtain ⟨o', es, pos⟩ := t
      rw [e] at h'
      have hx := asBool_eq e
      match es, h', hx with
      | [], h', _ => cases h'
      | [_], h', _ => cases h'
      | p :: q :: r, h', hx =>
        obtain ⟨h0, h3⟩ := and2 h'
        obtain ⟨h0, h2⟩ := and2 h0
        obtain ⟨h0, h1⟩ := and2 h0
        have h0 := of_decide_eq_true h0
        subst h0
        subst hx
        refine snd_or (sndE hy a p g h2) h1 ?_
        match r, h3 with
        | [], h3 =>
          obtain ⟨h4, h5⟩ := and2 h3
          exact .inl ⟨rfl, h4, sndE hy b q g h5⟩
        | z :: r, h3 => exact .inr ⟨by simp, sndE hy b _ g h3⟩
  | .ite c a b, sc, ow, X, Z, x, g, h => by
    have h' : (match asIf x with
      | some (p, q, r) => notIf p && chkE L N c sc ow p && chkE L N a sc ow q && chkE L N b sc ow r
      | none => false) = true := h
    cases e : asIf x with
    | none => rw [e] at h'; cases h'
    | some t =>
      obtain ⟨p, q, r⟩ := t
      rw [e] at h'
      obtain ⟨h0, h3⟩ := and2 h'
      obtain ⟨h0, h2⟩ := and2 h0
      obtain ⟨h0, h1⟩ := and2 h0
      obtain ⟨pos, rfl⟩ := asIf_eq e
      exact snd_ite (sndE hy c p g h1) h0 (sndE hy a q g h2) (sndE hy b r g h3) pos
  | .cmp o a b, sc, ow, X, Z, x, g, h => by
    have h' : (match asCmp x with
      | some (p, os, qs) => match os, qs with
        | [o'], [q] => decide (o' = opC o) && notSet q && chkE L N a sc ow p && chkE L N b sc ow q
        | _, _ => false
      | none => false) = true := h
    cases e : asCmp x with
    | none => rw [e] at h'; cases h'
    | some t =>
      obtain ⟨p, os, qs⟩ := t
      rw [e] at h'
      obtain ⟨pos, hx⟩ := asCmp_eq e
      match os, qs, h', hx with
      | [], _, h', _ => cases h'
      | _ :: _ :: _, _, h', _ => cases h'
      | [_], [], h', _ => cases h'
      | [_], _ :: _ :: _, h', _ => cases h'
      | [o'], [q], h', hx =>
        obtain ⟨h0, h3⟩ := and2 h'
        obtain ⟨h0, h2⟩ := and2 h0
        obtain ⟨h0, h1⟩ := and2 h0
        have h0 := of_decide_eq_true h0
        subst h0
        subst hx
        exact snd_cmp g o (sndE hy a p g h2) (sndE hy b q g h3) h1 pos
  | .chn o o2 a b c, sc, ow, X, Z, x, g, h => by
    have h' : (match asCmp x with
      | some (p, os, qs) => match os, qs with
        | [o', o2'], [q, r] => decide (o' = opC o) && decide (o2' = opC o2) && notSet r && chkE L N a sc ow p && chkE L N b sc ow q && chkE L N c sc ow r
        | _, _ => false
      | none => false) = true := h
    cases e : asCmp x with
    | none => rw [e] at h'; cases h'
    | some t =>
      obtain ⟨p, os, qs⟩ := t
      rw [e] at h'
      obtain ⟨pos, hx⟩ := asCmp_eq e
      match os, qs, h', hx with
      | [], _, h', _ => cases h'
      | [_], _, h', _ => cases h'
      | _ :: _ :: _ :: _, _, h', _ => cases h'
      | [_, _], [], h', _ => cases h'
      | [_, _], [_], h', _ => cases h'
      | [_, _], _ :: _ :: _ :: _, h', _ => cases h'
      | [o', o2'], [q, r], h', hx =>
        obtain ⟨h0, h5⟩ := and2 h'
        obtain ⟨h0, h4⟩ := and2 h0
        obtain ⟨h0, h3⟩ := and2 h0
        obtain ⟨h0, h2⟩ := and2 h0
        obtain ⟨h0, h1⟩ := and2 h0
        have h0 := of_decide_eq_true h0
        have h1 := of_decide_eq_true h1
        subst h0 h1
        subst hx
        exact snd_chn g o o2 (sndE hy a p g h3) (sndE hy b q g h4) (sndE hy c r g h5) h2 pos
  | .tup es, sc, ow, X, Z, x, g, h => by
    have h' : (match asTup x with
      | some xs => decide (xs.length ≤ 1000) && chkEs L N es sc ow xs
      | none => false) = true := h
    cases e : asTup x with
    | none => rw [e] at h'; cases h'
    | some xs =>
      rw [e] at h'
      obtain ⟨h0, h1⟩ := and2 h'
      obtain ⟨kk, pos, rfl⟩ := asTup_eq e
      have l0 := of_decide_eq_true h0
      exact snd_tup (sndEs hy es xs g h1) (fun env h vs h' q => by
        rw [evEs_len es env h vs h' q, ← chkEs_len es sc ow xs h1]
        exact Nat.le_trans l0 (by decide)) kk pos
  | .idx a i, sc, ow, X, Z, x, g, h => by
    have h' : (match asSub x with
      | some (p, q) => notSlice q && chkE L N a sc ow p && chkE L N i sc ow q
      | none => false) = true := h
    cases e : asSub x with
    | none => rw [e] at h'; cases h'
    | some t =>
      obtain ⟨p, q⟩ := t
      rw [e] at h'
      obtain ⟨h0, h2⟩ := and2 h'
      obtain ⟨h0, h1⟩ := and2 h0
      obtain ⟨pos, rfl⟩ := asSub_eq e
      exact snd_idx g (sndE hy a p g h1) (sndE hy i q g h2) h0 pos
  | .slc a lo hi, sc, ow, X, Z, x, g, h => by
    have h' : (match asSub x with
      | some (p, q) => match asSlice q with
        | some (l, u, st) => st.isNone && chkE L N a sc ow p && chkO L N lo sc ow l && chkO L N hi sc ow u
        | none => false
      | none => false) = true := h
    cases e : asSub x with
    | none => rw [e] at h'; cases h'
    | some t =>
      obtain ⟨p, q⟩ := t
      rw [e] at h'
      obtain ⟨pos, rfl⟩ := asSub_eq e
      have h'' : (match asSlice q with
        | some (l, u, st) => st.isNone && chkE L N a sc ow p && chkO L N lo sc ow l && chkO L N hi sc ow u
        | none => false) = true := h'
      cases e2 : asSlice q with
      | none => rw [e2] at h''; cases h''
      | some t =>
        obtain ⟨l, u, st⟩ := t
        rw [e2] at h''
        obtain ⟨p2, rfl⟩ := asSlice_eq e2
        obtain ⟨h0, h3⟩ := and2 h''
        obtain ⟨h0, h2⟩ := and2 h0
        obtain ⟨h0, h1⟩ := and2 h0
        cases st with
        | some _ => cases h0
        | none => exact snd_slc g (sndE hy a p g h1) (sndO hy lo l g h2) (sndO hy hi u g h3) pos p2
  | .rev a, sc, ow, X, Z, x, g, h => by
    have h' : (match asSub x with
      | some (p, q) => match asSlice q with
        | some (l, u, st) => match st with
          | some c => l.isNone && u.isNone && minusOne c && chkE L N a sc ow p
          | none => false
        | none => false
      | none => false) = true := h
    cases e : asSub x with
    | none => rw [e] at h'; cases h'
    | some t =>
      obtain ⟨p, q⟩ := t
      rw [e] at h'
      obtain ⟨pos, rfl⟩ := asSub_eq e
      dsimp only at h'
      cases e2 : asSlice q with
      | none => rw [e2] at h'; cases h'
      | some t =>
        obtain ⟨l, u, st⟩ := t
        rw [e2] at h'
        obtain ⟨p2, rfl⟩ := asSlice_eq e2
        cases st with
        | none => cases h'
        | some c =>
          obtain ⟨h0, h3⟩ := and2 h'
          obtain ⟨h0, h2⟩ := and2 h0
          obtain ⟨h0, h1⟩ := and2 h0
          cases l with
          | some _ => cases h0
          | none =>
            cases u with
            | some _ => cases h1
            | none => exact snd_rev g (sndE hy a p g h3) h2 pos p2
  | .call f es ds, sc, ow, X, Z, x, g, h => by
    have h' : (match asCall x with
      | some (p, xs, ks) => ks.isEmpty && (match L.fn f with
        | some nm => gnameIs sc nm p
        | none => false) && decide (ds ∈ L.dfl f) && xs.all notStar && chkEs L N es sc ow xs
      | none => false) = true := h
    cases e : asCall x with
    | none => rw [e] at h'; cases h'
    | some t =>
      obtain ⟨p, xs, ks⟩ := t
      rw [e] at h'
      obtain ⟨pos, rfl⟩ := asCall_eq e
      obtain ⟨h0, h4⟩ := and2 h'
      obtain ⟨h0, h3⟩ := and2 h0
      obtain ⟨h0, h2⟩ := and2 h0
      obtain ⟨h0, h1⟩ := and2 h0
      cases ks with
      | cons _ _ => cases h0
      | nil =>
        cases hn : L.fn f with
        | none => rw [hn] at h1; cases h1
        | some nm =>
          rw [hn] at h1
          have l := chkEs_len es sc ow xs h4
          refine snd_call hy g hn h1 (of_decide_eq_true h2) h3 (sndEs hy es xs g h4) (fun e0 env h vs h' q => ?_) (fun e0 env hh => ?_) pos
          · subst e0
            cases es with
            | nil => cases q; exact ⟨rfl, rfl⟩
            | cons _ _ => cases l
          · subst e0
            cases es with
            | nil => exact ⟨[], hh, rfl⟩
            | cons _ _ => cases l
  | .bi b es, sc, ow, X, Z, x, g, h => by
    have h' : (match asCall x with
      | some (p, xs, ks) => ks.isEmpty && gnameIs sc (biN b) p && !xs.isEmpty && xs.all notStar && chkEs L N es sc ow xs
      | none => false) = true := h
    cases e : asCall x with
    | none => rw [e] at h'; cases h'
    | some t =>
      obtain ⟨p, xs, ks⟩ := t
      rw [e] at h'
      obtain ⟨pos, rfl⟩ := asCall_eq e
      obtain ⟨h0, h4⟩ := and2 h'
      obtain ⟨h0, h3⟩ := and2 h0
      obtain ⟨h0, h2⟩ := and2 h0
      obtain ⟨h0, h1⟩ := and2 h0
      cases ks with
      | cons _ _ => cases h0
      | nil => exact snd_bi hy g h1 h2 h3 (sndEs hy es xs g h4) pos
  | .isi a t, sc, ow, X, Z, x, g, h => by
    have h' : (match asCall x with
      | some (p, xs, ks) => match xs with
        | [y, z] => ks.isEmpty && gnameIs sc "isinstance" p && isBuiltTy t && gnameIs sc (tyN t) z && notStar y && chkE L N a sc ow y
        | _ => false
      | none => false) = true := h
    cases e : asCall x with
    | none => rw [e] at h'; cases h'
    | some t =>
      obtain ⟨p, xs, ks⟩ := t
      rw [e] at h'
      obtain ⟨pos, hx⟩ := asCall_eq e
      match xs, h', hx with
      | [], h', _ => cases h'
      | [_], h', _ => cases h'
      | _ :: _ :: _ :: _, h', _ => cases h'
      | [y, z], h', hx =>
        subst hx
        obtain ⟨h0, h5⟩ := and2 h'
        obtain ⟨h0, h4⟩ := and2 h0
        obtain ⟨h0, h3⟩ := and2 h0
        obtain ⟨h0, h2⟩ := and2 h0
        obtain ⟨h0, h1⟩ := and2 h0
        cases ks with
        | cons _ _ => cases h0
        | nil => exact snd_isi hy g h1 h2 h3 h4 (sndE hy a y g h5) pos
  | .fr f, sc, ow, X, Z, x, g, h => snd_fr (sndF hy f x g h).1 (sndF hy f x g h).2
  | .mk f, sc, ow, X, Z, x, g, h => snd_mk (sndF hy f x g h).1 (sndF hy f x g h).2
  | .olen i, sc, ow, X, Z, x, g, h => by
    have h' : (match asCall x with
      | some (p, xs, ks) => match xs with
        | [y] => ks.isEmpty && gnameIs sc "len" p && nameIs N sc i y
        | _ => false
      | none => false) = true := h
    cases e : asCall x with
    | none => rw [e] at h'; cases h'
    | some t =>
      obtain ⟨p, xs, ks⟩ := t
      rw [e] at h'
      obtain ⟨pos, hx⟩ := asCall_eq e
      match xs, h', hx with
      | [], h', _ => cases h'
      | _ :: _ :: _, h', _ => cases h'
      | [y], h', hx =>
        subst hx
        obtain ⟨h0, h2⟩ := and2 h'
        obtain ⟨h0, h1⟩ := and2 h0
        cases ks with
        | cons _ _ => cases h0
        | nil => exact snd_olen hy g h1 h2 pos
  | .oidx i e, sc, ow, X, Z, x, g, h => by
    have h' : (match asSub x with
      | some (p, q) => notSlice q && nameIs N sc i p && chkE L N e sc ow q
      | none => false) = true := h
    cases e1 : asSub x with
    | none => rw [e1] at h'; cases h'
    | some t =>
      obtain ⟨p, q⟩ := t
      rw [e1] at h'
      obtain ⟨h0, h2⟩ := and2 h'
      obtain ⟨h0, h1⟩ := and2 h0
      obtain ⟨pos, rfl⟩ := asSub_eq e1
      exact snd_oidx g h1 h0 (sndE hy e q g h2) pos
  | .oemp i pos, sc, ow, X, Z, x, g, h => by cases h
  | .lenDC a tg it, sc, ow, X, Z, x, g, h => by
    have h' : (match asCall x with
      | some (p, xs, ks) => match xs with
        | [y] => ks.isEmpty && gnameIs sc "len" p && (match asDictComp y with
          | some (kx, vx, gs, scp) => match gs with
            | [⟨tx, ix, ifs, as⟩] => decide (as = 0) && ifs.isEmpty && decide (asConst vx = some (.bool true)) && notSet ix && chkIt L N it sc ow ix && blkC N sc scp (ownOf N tg.slots) && chkT N scp tg tx && chkE L N a (relS scp sc) scp kx
            | _ => false
          | none => false)
        | _ => false
      | none => false) = true := h
    cases e : asCall x with
    | none => rw [e] at h'; cases h'
    | some t =>
      obtain ⟨p, xs, ks⟩ := t
      rw [e] at h'
      obtain ⟨pos, hx⟩ := asCall_eq e
      match xs, h', hx with
      | [], h', _ => cases h'
      | _ :: _ :: _, h', _ => cases h'
      | [y], h', hx =>
        subst hx
        obtain ⟨h0, h2⟩ := and2 h'
        obtain ⟨h0, h1⟩ := and2 h0
        cases ks with
        | cons _ _ => cases h0
        | nil =>
          cases e2 : asDictComp y with
          | none => rw [e2] at h2; cases h2
          | some t =>
            obtain ⟨kx, vx, gs, scp⟩ := t
            rw [e2] at h2
            obtain ⟨pos2, hy2⟩ := asDictComp_eq e2
            match gs, h2, hy2 with
            | [], h2, _ => cases h2
            | ⟨_, _, _, _⟩ :: _ :: _, h2, _ => cases h2
            | [⟨tx, ix, ifs, as⟩], h2, hy2 =>
              subst hy2
              obtain ⟨g0, g7⟩ := and2 h2
              obtain ⟨g0, g6⟩ := and2 g0
              obtain ⟨g0, g5⟩ := and2 g0
              obtain ⟨g0, g4⟩ := and2 g0
              obtain ⟨g0, g3⟩ := and2 g0
              obtain ⟨g0, g2⟩ := and2 g0
              obtain ⟨g0, g1⟩ := and2 g0
              have g0 := of_decide_eq_true g0
              subst g0
              cases ifs with
              | cons _ _ => cases g1
              | nil =>
                have ok : BlkOk X.N X.env.scope scp (ownOf N tg.slots) := by
                  rw [g.eN, g.sc]
                  exact blkOk_by g5
                exact snd_lenDC hy g h1 (sndIt hy it tx ix g g4) ok (ownOf_snd N _) (fun s H C cl fp => sndT tg tx (g.blk s H C cl fp) g6) (fun s H C cl fp => (sndE hy a kx (g.blk s H C cl fp) g7).pe) (of_decide_eq_true g2) (fun x => fold_no g3 x)
  | .lenSet f, sc, ow, X, Z, x, g, h => by cases h
theorem sndEs (hy : Hyp U W L k) : ∀ (es : List E) {sc ow : Scope} {X : Cx} {Z : WX} (xs : List Expr), Gd W k N sc ow X Z → chkEs L N es sc ow xs = true → PA X xs (RDs W Z (evEs (callD U k) es))
  | [], sc, ow, X, Z, xs, g, h => by
    cases xs with
    | nil => exact snd_pa0
    | cons _ _ => cases h
  | e :: es, sc, ow, X, Z, xs, g, h => by
    cases xs with
    | nil => cases h
    | cons x xs =>
      obtain ⟨h0, h2⟩ := and2 (show (notStar x && chkE L N e sc ow x && chkEs L N es sc ow xs) = true from h)
      obtain ⟨h0, h1⟩ := and2 h0
      exact snd_pa1 (sndE hy e x g h1) (sndEs hy es xs g h2) h0
theorem sndO (hy : Hyp U W L k) : ∀ (o : Option E) {sc ow : Scope} {X : Cx} {Z : WX} (x : Option Expr), Gd W k N sc ow X Z → chkO L N o sc ow x = true → PO X x (RDo W Z (evO (callD U k) o))
  | none, sc, ow, X, Z, x, g, h => by
    cases x with
    | none => exact snd_po0
    | some _ => cases h
  | some e, sc, ow, X, Z, x, g, h => by
    cases x with
    | none => cases h
    | some x => exact snd_po1 (sndE hy e x g h)
theorem sndF (hy : Hyp U W L k) : ∀ (f : FE) {sc ow : Scope} {X : Cx} {Z : WX} (x : Expr), Gd W k N sc ow X Z → chkF L N f sc ow x = true → PE X x (RDf W Z (evF (callD U k) f)) ∧ ownTest x = false
  | .lst es, sc, ow, X, Z, x, g, h => by
    have h' : (match asList x with
      | some xs => decide (xs.length ≤ 1000) && chkEs L N es sc ow xs
      | none => false) = true := h
    cases e : asList x with
    | none => rw [e] at h'; cases h'
    | some xs =>
      rw [e] at h'
      obtain ⟨h0, h1⟩ := and2 h'
      obtain ⟨pos, rfl⟩ := asList_eq e
      have l0 := of_decide_eq_true h0
      exact ⟨snd_lst (sndEs hy es xs g h1) (fun env h vs h' q => by
        rw [evEs_len es env h vs h' q, ← chkEs_len es sc ow xs h1]
        exact Nat.le_trans l0 (by decide)) pos, rfl⟩
  | .of a, sc, ow, X, Z, x, g, h => by
    have h' : (match asCall x with
      | some (p, xs, ks) => match xs with
        | [y] => ks.isEmpty && gnameIs sc "list" p && notStar y && chkE L N a sc ow y
        | _ => false
      | none => false) = true := h
    cases e : asCall x with
    | none => rw [e] at h'; cases h'
    | some t =>
      obtain ⟨p, xs, ks⟩ := t
      rw [e] at h'
      obtain ⟨pos, hx⟩ := asCall_eq e
      match xs, h', hx with
      | [], h', _ => cases h'
      | _ :: _ :: _, h', _ => cases h'
      | [y], h', hx =>
        subst hx
        obtain ⟨h0, h3⟩ := and2 h'
        obtain ⟨h0, h2⟩ := and2 h0
        obtain ⟨h0, h1⟩ := and2 h0
        cases ks with
        | cons _ _ => cases h0
        | nil => exact ⟨snd_of hy g h1 h2 (sndE hy a y g h3) pos, rfl⟩
  | .ofIt it, sc, ow, X, Z, x, g, h => by
    cases it with
    | rng1 b =>
      have h' : (match asCall x with
        | some (p, xs, ks) => match xs with
          | [y] => match asCall y with
            | some (p2, ys, ks2) => match ys with
              | [z] => ks.isEmpty && ks2.isEmpty && gnameIs sc "list" p && gnameIs sc "range" p2 && notStar z && chkE L N b sc ow z
              | _ => false
            | none => false
          | _ => false
        | none => false) = true := h
      cases e : asCall x with
      | none => rw [e] at h'; cases h'
      | some t =>
        obtain ⟨p, xs, ks⟩ := t
        rw [e] at h'
        obtain ⟨pos, hx⟩ := asCall_eq e
        match xs, h', hx with
        | [], h', _ => cases h'
        | _ :: _ :: _, h', _ => cases h'
        | [y], h', hx =>
          subst hx
          have h'' : (match asCall y with
            | some (p2, ys, ks2) => match ys with
              | [z] => ks.isEmpty && ks2.isEmpty && gnameIs sc "list" p && gnameIs sc "range" p2 && notStar z && chkE L N b sc ow z
              | _ => false
            | none => false) = true := h'
          cases e2 : asCall y with
          | none => rw [e2] at h''; cases h''
          | some t =>
            obtain ⟨p2, ys, ks2⟩ := t
            rw [e2] at h''
            obtain ⟨pos2, hx2⟩ := asCall_eq e2
            match ys, h'', hx2 with
            | [], h', _ => cases h'
            | _ :: _ :: _, h', _ => cases h'
            | [z], h', hx2 =>
              subst hx2
              obtain ⟨h0, h5⟩ := and2 h'
              obtain ⟨h0, h4⟩ := and2 h0
              obtain ⟨h0, h3⟩ := and2 h0
              obtain ⟨h0, h2⟩ := and2 h0
              obtain ⟨h0, h1⟩ := and2 h0
              cases ks with
              | cons _ _ => cases h0
              | nil =>
                cases ks2 with
                | cons _ _ => cases h1
                | nil => exact ⟨snd_lrng1 hy g h2 h3 h4 (sndE hy b z g h5) pos pos2, rfl⟩
    | rng2 a b =>
      have h' : (match asCall x with
        | some (p, xs, ks) => match xs with
          | [y] => match asCall y with
            | some (p2, ys, ks2) => match ys with
              | [z, z2] => ks.isEmpty && ks2.isEmpty && gnameIs sc "list" p && gnameIs sc "range" p2 && notStar z && notStar z2 && chkE L N a sc ow z && chkE L N b sc ow z2
              | _ => false
            | none => false
          | _ => false
        | none => false) = true := h
      cases e : asCall x with
      | none => rw [e] at h'; cases h'
      | some t =>
        obtain ⟨p, xs, ks⟩ := t
        rw [e] at h'
        obtain ⟨pos, hx⟩ := asCall_eq e
        match xs, h', hx with
        | [], h', _ => cases h'
        | _ :: _ :: _, h', _ => cases h'
        | [y], h', hx =>
          subst hx
          have h'' : (match asCall y with
            | some (p2, ys, ks2) => match ys with
              | [z, z2] => ks.isEmpty && ks2.isEmpty && gnameIs sc "list" p && gnameIs sc "range" p2 && notStar z && notStar z2 && chkE L N a sc ow z && chkE L N b sc ow z2
              | _ => false
            | none => false) = true := h'
          cases e2 : asCall y with
          | none => rw [e2] at h''; cases h''
          | some t =>
            obtain ⟨p2, ys, ks2⟩ := t
            rw [e2] at h''
            obtain ⟨pos2, hx2⟩ := asCall_eq e2
            match ys, h'', hx2 with
            | [], h', _ => cases h'
            | [_], h', _ => cases h'
            | _ :: _ :: _ :: _, h', _ => cases h'
            | [z, z2], h', hx2 =>
              subst hx2
              obtain ⟨h0, h7⟩ := and2 h'
              obtain ⟨h0, h6⟩ := and2 h0
              obtain ⟨h0, h5⟩ := and2 h0
              obtain ⟨h0, h4⟩ := and2 h0
              obtain ⟨h0, h3⟩ := and2 h0
              obtain ⟨h0, h2⟩ := and2 h0
              obtain ⟨h0, h1⟩ := and2 h0
              cases ks with
              | cons _ _ => cases h0
              | nil =>
                cases ks2 with
                | cons _ _ => cases h1
                | nil => exact ⟨snd_lrng2 hy g h2 h3 h4 h5 (sndE hy a z g h6) (sndE hy b z2 g h7) pos pos2, rfl⟩
    | seq _ => cases h
    | enum _ => cases h
    | zip _ _ => cases h
  | .items i, sc, ow, X, Z, x, g, h => by
    have h' : (match asCall x with
      | some (p, xs, ks) => match xs with
        | [y] => ks.isEmpty && gnameIs sc "list" p && (match asMeth y with
          | some (o, n, ap, es, ks2, cp) => es.isEmpty && ks2.isEmpty && decide (n = ("items" : Str)) && (ap.endLine == cp.line) && nameIs N sc i o
          | none => false)
        | _ => false
      | none => false) = true := h
    cases e : asCall x with
    | none => rw [e] at h'; cases h'
    | some t =>
      obtain ⟨p, xs, ks⟩ := t
      rw [e] at h'
      obtain ⟨pos, hx⟩ := asCall_eq e
      match xs, h', hx with
      | [], h', _ => cases h'
      | _ :: _ :: _, h', _ => cases h'
      | [y], h', hx =>
        subst hx
        obtain ⟨h0, h2⟩ := and2 h'
        obtain ⟨h0, h1⟩ := and2 h0
        cases ks with
        | cons _ _ => cases h0
        | nil =>
          cases e2 : asMeth y with
          | none => rw [e2] at h2; cases h2
          | some t =>
            obtain ⟨o, n, ap, es, ks2, cp⟩ := t
            rw [e2] at h2
            have hy2 := asMeth_eq e2
            subst hy2
            obtain ⟨g0, g4⟩ := and2 h2
            obtain ⟨g0, g3⟩ := and2 g0
            obtain ⟨g0, g2⟩ := and2 g0
            obtain ⟨g0, g1⟩ := and2 g0
            have g2 := of_decide_eq_true g2
            subst g2
            cases es with
            | cons _ _ => cases g0
            | nil =>
              cases ks2 with
              | cons _ _ => cases g1
              | nil => exact ⟨snd_items hy g h1 g4 g3, rfl⟩
  | .rep f e, sc, ow, X, Z, x, g, h => by cases h
  | .cat a b, sc, ow, X, Z, x, g, h => by
    have h' : (match asBin x with
      | some (p, o, q) => decide (o = .Add) && chkE L N a sc ow p && chkE L N b sc ow q
      | none => false) = true := h
    cases e : asBin x with
    | none => rw [e] at h'; cases h'
    | some t =>
      obtain ⟨p, o', q⟩ := t
      rw [e] at h'
      obtain ⟨h0, h2⟩ := and2 h'
      obtain ⟨h0, h1⟩ := and2 h0
      have h0 := of_decide_eq_true h0
      subst h0
      obtain ⟨pos, rfl⟩ := asBin_eq e
      exact ⟨snd_cat (sndE hy a p g h1) (sndE hy b q g h2) pos, rfl⟩
  | .comp e tg it cs, sc, ow, X, Z, x, g, h => by
    have h' : (match asComp x with
      | some (ex, gs, scp) => match gs with
        | [⟨tx, ix, ifs, as⟩] => decide (as = 0) && notSet ix && chkIt L N it sc ow ix && blkC N sc scp (ownOf N tg.slots) && chkT N scp tg tx && chkC L N cs (relS scp sc) scp ifs && chkE L N e (relS scp sc) scp ex
        | _ => false
      | none => false) = true := h
    cases e1 : asComp x with
    | none => rw [e1] at h'; cases h'
    | some t =>
      obtain ⟨ex, gs, scp⟩ := t
      rw [e1] at h'
      obtain ⟨pos, hx⟩ := asComp_eq e1
      match gs, h', hx with
      | [], h', _ => cases h'
      | ⟨_, _, _, _⟩ :: _ :: _, h', _ => cases h'
      | [⟨tx, ix, ifs, as⟩], h', hx =>
        subst hx
        obtain ⟨h0, h6⟩ := and2 h'
        obtain ⟨h0, h5⟩ := and2 h0
        obtain ⟨h0, h4⟩ := and2 h0
        obtain ⟨h0, h3⟩ := and2 h0
        obtain ⟨h0, h2⟩ := and2 h0
        obtain ⟨h0, h1⟩ := and2 h0
        have h0 := of_decide_eq_true h0
        subst h0
        have ok : BlkOk X.N X.env.scope scp (ownOf N tg.slots) := by
          rw [g.eN, g.sc]
          exact blkOk_by h3
        exact ⟨comp_ok g.calm g.nd (sndIt hy it tx ix g h2) ok (ownOf_snd N _) (fun s H C cl fp => sndT tg tx (g.blk s H C cl fp) h4) (fun s H C cl fp => sndC hy cs ifs (g.blk s H C cl fp) h5)
          (fun s H C cl fp => (sndE hy e ex (g.blk s H C cl fp) h6).pe) (fun x => fold_no h1 x), rfl⟩
  | .comp2 e tg it tg2 it2 cs, sc, ow, X, Z, x, g, h => by cases h
theorem sndC (hy : Hyp U W L k) : ∀ (cs : List E) {sc ow : Scope} {X : Cx} {Z : WX} (xs : List Expr), Gd W k N sc ow X Z → chkC L N cs sc ow xs = true → PTs X xs (RDg W Z (fun _ _ _ _ b c => b = c) (evC (callD U k) cs))
  | [], sc, ow, X, Z, xs, g, h => by
    cases xs with
    | nil => exact snd_c0
    | cons _ _ => cases h
  | [c], sc, ow, X, Z, xs, g, h => by
    match xs, h with
    | [], h => cases h
    | _ :: _ :: _, h => cases h
    | [x], h =>
      obtain ⟨h0, h1⟩ := and2 (show (notIf x && chkE L N c sc ow x) = true from h)
      exact snd_c1 (sndE hy c x g h1) h0
  | _ :: _ :: _, sc, ow, X, Z, xs, g, h => by cases h
theorem sndIt (hy : Hyp U W L k) : ∀ (it : It) {sc ow : Scope} {X : Cx} {Z : WX} (tx x : Expr), Gd W k N sc ow X Z → chkIt L N it sc ow x = true → PI X tx x (RDi W Z (evIt (callD U k) it))
  | .seq e, sc, ow, X, Z, tx, x, g, h => snd_iseq g (sndE hy e x g h)
  | .rng1 b, sc, ow, X, Z, tx, x, g, h => by
    have h' : (match asCall x with
      | some (p, xs, ks) => match xs with
        | [z] => ks.isEmpty && gnameIs sc "range" p && notStar z && chkE L N b sc ow z
        | _ => false
      | none => false) = true := h
    cases e : asCall x with
    | none => rw [e] at h'; cases h'
    | some t =>
      obtain ⟨p, xs, ks⟩ := t
      rw [e] at h'
      obtain ⟨pos, hx⟩ := asCall_eq e
      match xs, h', hx with
      | [], h', _ => cases h'
      | _ :: _ :: _, h', _ => cases h'
      | [z], h', hx =>
        subst hx
        obtain ⟨h0, h3⟩ := and2 h'
        obtain ⟨h0, h2⟩ := and2 h0
        obtain ⟨h0, h1⟩ := and2 h0
        cases ks with
        | cons _ _ => cases h0
        | nil => exact snd_irng1 hy g h1 h2 (sndE hy b z g h3) pos
  | .rng2 a b, sc, ow, X, Z, tx, x, g, h => by
    have h' : (match asCall x with
      | some (p, xs, ks) => match xs with
        | [z, z2] => ks.isEmpty && gnameIs sc "range" p && notStar z && notStar z2 && chkE L N a sc ow z && chkE L N b sc ow z2
        | _ => false
      | none => false) = true := h
    cases e : asCall x with
    | none => rw [e] at h'; cases h'
    | some t =>
      obtain ⟨p, xs, ks⟩ := t
      rw [e] at h'
      obtain ⟨pos, hx⟩ := asCall_eq e
      match xs, h', hx with
      | [], h', _ => cases h'
      | [_], h', _ => cases h'
      | _ :: _ :: _ :: _, h', _ => cases h'
      | [z, z2], h', hx =>
        subst hx
        obtain ⟨h0, h5⟩ := and2 h'
        obtain ⟨h0, h4⟩ := and2 h0
        obtain ⟨h0, h3⟩ := and2 h0
        obtain ⟨h0, h2⟩ := and2 h0
        obtain ⟨h0, h1⟩ := and2 h0
        cases ks with
        | cons _ _ => cases h0
        | nil => exact snd_irng2 hy g h1 h2 h3 (sndE hy a z g h4) (sndE hy b z2 g h5) pos
  | .enum e, sc, ow, X, Z, tx, x, g, h => by cases h
  | .zip a b, sc, ow, X, Z, tx, x, g, h => by cases h
end
end
end Pyi
set_option Elab.async false
set_option linter.all false
set_option maxRecDepth 100000
set_option maxHeartbeats 2000000
/-! The interpreter is right: statements. -/
namespace Pyi
open PySem PySem.Spec PyProof.Rows L2

section
variable {W : Wd} {X : Cx} {Z : WX} {F0 F F' F1 : Addr → Prop} {μ0 μ μ' μ1 : List Addr} {H0 H H' H1 : Hp} {h h' : Hs} {env env' : Env} {σ σ' : L2.St}
theorem Mon.refl : Mon F μ H F μ H := ⟨fun _ h => h, fun _ _ h => h, fun _ _ => rfl⟩
theorem Mon.trans (a : Mon F μ H F' μ' H') (b : Mon F' μ' H' F1 μ1 H1) : Mon F μ H F1 μ1 H1 := ⟨fun x h => b.f x (a.f x h), fun n x h => b.mu n x (a.mu n x h), fun x h => (b.fz x (a.f x h)).trans (a.fz x h)⟩
/-- the state in a def's body; F0, μ0, H0: at its start -/
structure At (W : Wd) (F0 : Addr → Prop) (μ0 : List Addr) (H0 : Hp) (F : Addr → Prop) (μ : List Addr) (H : Hp) (h : Hs) (env : Env) (σ : L2.St) : Prop where
  st : RSt W F μ H h
  en : REnv W F μ H env σ
  stp : Stp F0 μ0 H0 F μ H
  own : ∀ a, Own env σ a → H0 a = none
  l0 : ∀ a, F0 a → H0 a ≠ none
theorem At.step (A : At W F0 μ0 H0 F μ H h env σ) (r : RSt W F' μ' H' h') (s : Stp F μ H F' μ' H') : At W F0 μ0 H0 F' μ' H' h' env σ := ⟨r, A.en.mono s, A.stp.trans s, A.own, A.l0⟩
/-- what is wanted behind a statement's run -/
def AftS (W : Wd) (Z : WX) (F0 : Addr → Prop) (μ0 : List Addr) (H0 : Hp) (F : Addr → Prop) (μ : List Addr) (H : Hp) (σ : L2.St) (o : OutS) (D : Ends) : Prop := match o with
  | .ok .nxt env' h' => ∀ F' μ' H' σ', At W F0 μ0 H0 F' μ' H' h' env' σ' → Mon F μ H F' μ' H' → D.nx σ' H'
  | .ok (.ret v) _ h' => ∀ F' μ' H' x, RSt W F' μ' H' h' → Stp F0 μ0 H0 F' μ' H' → RV W F' μ' H' v x → D.rt x H'
  | .exc c v h' => Exq W Z F0 μ0 H0 σ c v h'
  | .bad => False
def RS (W : Wd) (Z : WX) (m : Env → Hs → OutS) : TS := fun D σ H => ∃ F0 μ0 H0 F μ env h, At W F0 μ0 H0 F μ H h env σ ∧ AftS W Z F0 μ0 H0 F μ H σ (m env h) D
/-- the wish looks at no name of the frame -/
def Blind (Z : WX) : Prop := ∀ c d σ σ' H, Z c d σ H → Z c d σ' H
theorem Exq.sig (b : Blind Z) {c : Nat} {v : Val} (q : Exq W Z F μ H σ c v h') : Exq W Z F μ H σ' c v h' := fun F' μ' H' d x r s n f m e rv => b _ _ _ _ _ (q F' μ' H' d x r s n f m e rv)
theorem AftS.rebase {o : OutS} {D : Ends} (b : Blind Z) (m : Mon F μ H F1 μ1 H1) (q : AftS W Z F0 μ0 H0 F μ H σ o D) : AftS W Z F0 μ0 H0 F1 μ1 H1 σ' o D := by
  cases o with
  | ok f e h =>
    cases f with
    | nxt => exact fun F' μ' H' σ' A mm => q F' μ' H' σ' A (m.trans mm)
    | ret v => exact q
  | exc c v h => exact Exq.sig b q
  | bad => exact q
theorem rs_step {α β : Type} {R : Hp → (Addr → Prop) → List Addr → Hp → α → β → Prop} {m : Ev α} {f : α → Hs → OutS} {Q : β → Hp → Prop} {D : Ends} (b : Blind Z) (A : At W F0 μ0 H0 F μ H h env σ) (q : AftS W Z F0 μ0 H0 F μ H σ ((m env h).toS f) D)
    (k : ∀ v h' F' μ' H' x, At W F0 μ0 H0 F' μ' H' h' env σ → Stp F μ H F' μ' H' → R H F' μ' H' v x → AftS W Z F0 μ0 H0 F' μ' H' σ (f v h') D → Q x H') : RDg W Z R m σ H Q := by
  refine ⟨F, μ, env, h, A.st, A.en, ?_⟩
  cases hm : m env h with
  | ok v h1 =>
    rw [hm] at q
    intro F' μ' H' x r s rv
    have q' : AftS W Z F0 μ0 H0 F μ H σ (f v h1) D := q
    exact k v h1 F' μ' H' x (A.step r s) s rv (q'.rebase b s.mon)
  | exc c v h1 =>
    rw [hm] at q
    have q' : Exq W Z F0 μ0 H0 σ c v h1 := q
    exact Exq.trans q' A.stp
  | bad =>
    rw [hm] at q
    exact q.elim
theorem aftS_opt {α : Type} {o : Option α} {f : α → Hs → OutS} {D : Ends} (q : AftS W Z F0 μ0 H0 F μ H σ ((ofOpt o h).toS f) D) : ∃ a, o = some a ∧ AftS W Z F0 μ0 H0 F μ H σ (f a h) D := by
  cases o with
  | some a => exact ⟨a, rfl, q⟩
  | none => exact q.elim
theorem PS.imp {s : Stmt} {t t' : TS} (h : PS X s t) (i : ∀ D σ H, t' D σ H → t D σ H) : PS X s t' := ⟨fun pins s σ H D I q => h.run pins s σ H D I (i D σ H q)⟩
theorem PSs.imp {s : List Stmt} {t t' : TS} (h : PSs X s t) (i : ∀ D σ H, t' D σ H → t D σ H) : PSs X s t' := ⟨fun pins s σ H D I q => h.run pins s σ H D I (i D σ H q)⟩
/-! ### a list that the frame alone holds -/
theorem own_set2 {i : Nat} {s : Slot} {a b : Addr} {j : Nat} (o : OwnAt (env.set i (some s)) (σ.set i (some (.ref a))) j b) : (i = j ∧ b = a) ∨ (i ≠ j ∧ OwnAt env σ j b) := by
  obtain ⟨t, e1, e2, e3⟩ := o
  rcases getSet e1 with ⟨e, _⟩ | ⟨hn, z⟩
  · rcases getSet e3 with ⟨_, w⟩ | ⟨hn, _⟩
    · cases w
      exact .inl ⟨e, rfl⟩
    · exact absurd e hn
  · rcases getSet e3 with ⟨w, _⟩ | ⟨_, w⟩
    · exact absurd w hn
    · exact .inr ⟨hn, t, z, e2, w⟩
theorem REnv.setOwn (r : REnv W F μ H env σ) {i : Nat} {s : Slot} {a : Addr} (hs : RSlot W F μ H s (.ref a)) (hn : ∀ j, ¬ OwnAt env σ j a) : REnv W F μ H (env.set i (some s)) (σ.set i (some (.ref a))) where
  len := by rw [List.length_set, List.length_set]; exact r.len
  sl := fun j t e => by
    rcases getSet e with ⟨rfl, z⟩ | ⟨hn, z⟩
    · cases z
      have hl : i < σ.length := by
        have := (List.getElem?_eq_some_iff.mp e).1
        rw [List.length_set, r.len] at this
        exact this
      exact ⟨_, List.getElem?_set_self hl, hs⟩
    · obtain ⟨y, e1, q⟩ := r.sl j t z
      exact ⟨y, by rw [List.getElem?_set_ne hn]; exact e1, q⟩
  sep := fun j k b h1 h2 => by
    rcases own_set2 h1 with ⟨e1, e2⟩ | ⟨e1, q1⟩
    · rcases own_set2 h2 with ⟨e3, e4⟩ | ⟨e3, q3⟩
      · exact e1.symm.trans e3
      · rw [e2] at q3
        exact absurd q3 (hn k)
    · rcases own_set2 h2 with ⟨e3, e4⟩ | ⟨e3, q3⟩
      · rw [e4] at q1
        exact absurd q1 (hn j)
      · exact r.sep j k b q1 q3
/-- what the frame's own list becomes -/
theorem At.put (A : At W F0 μ0 H0 F μ H h env σ) {i : Nat} {s s' : Slot} {a : Addr} {o : HO} (he : env[i]? = some (some s)) (ho : isOwn s = true) (hx : σ[i]? = some (some (.ref a))) (hs : RSlot W F μ (upd H a o) s' (.ref a)) :
    At W F0 μ0 H0 F μ (upd H a o) h (env.set i (some s')) σ ∧ Mon F μ H F μ (upd H a o) := by
  have own : OwnAt env σ i a := ⟨s, he, ho, hx⟩
  obtain ⟨lv, nf, nm⟩ := A.en.own_live ⟨i, own⟩
  have n0 := A.own a ⟨i, own⟩
  refine ⟨⟨A.st.out nf nm, ⟨by rw [List.length_set]; exact A.en.len, fun j t e => ?_, fun j k b h1 h2 => ?_⟩, ?_, fun b hb => ?_, A.l0⟩, Mon.out nf⟩
  · rcases getSet e with ⟨rfl, z⟩ | ⟨hn, z⟩
    · cases z
      exact ⟨_, hx, hs⟩
    · obtain ⟨y, e1, q⟩ := A.en.sl j t z
      refine ⟨y, e1, q.out nf fun ht ey => hn (A.en.sep i j a own ⟨t, z, ht, ?_⟩)⟩
      rw [e1, ey]
  · have w : ∀ j b, OwnAt (env.set i (some s')) σ j b → OwnAt env σ j b := fun j b ⟨t, e1, e2, e3⟩ => by
      rcases getSet e1 with ⟨rfl, _⟩ | ⟨_, z⟩
      · rw [hx] at e3
        cases e3
        exact own
      · exact ⟨t, z, e2, e3⟩
    exact A.en.sep j k b (w j b h1) (w k b h2)
  · have s := A.stp
    exact {
      f := s.f
      m := s.m
      fz := fun b fb => (upd_ne (show b ≠ a from fun z => A.l0 b fb (z ▸ n0))).trans (s.fz b fb)
      keep := fun b u e m => (upd_ne (ne_of_none e n0)).trans (s.keep b u e m)
      fn := s.fn
      mn := s.mn
      lv := fun b e => by
        by_cases z : b = a
        · rw [z, upd_same]; exact fun q => by cases q
        · rw [upd_ne z]; exact s.lv b e }
  · obtain ⟨j, t, e1, e2, e3⟩ := hb
    rcases getSet e1 with ⟨rfl, _⟩ | ⟨_, z⟩
    · rw [hx] at e3
      cases e3
      exact n0
    · exact A.own b ⟨j, t, z, e2, e3⟩
theorem At.setV (A : At W F0 μ0 H0 F μ H h env σ) {i : Nat} {v : Val} {x : V} (hv : RV W F μ H v x) : At W F0 μ0 H0 F μ H h (env.set i (some (.v v))) (σ.set i (some x)) := ⟨A.st, A.en.set hv, A.stp, fun a o => A.own a (A.en.own_set o), A.l0⟩
/-! ### small statements -/
variable {D : Ends}
theorem s_set {m : Ev Val} {i : Nat} (b : Blind Z) (q : RS W Z (fun env h => (m env h).toS fun x h => .ok .nxt (setAt (.v x) env i) h) D σ H) : tAsg (RD W Z m) (gName i) D σ H := by
  obtain ⟨F0, μ0, H0, F, μ, env, h, A, a⟩ := q
  show RD W Z m σ H fun x H1 => D.nx (σ.set i (some x)) H1
  exact rs_step b A a fun v h1 F1 μ1 H1 x A1 s1 v1 a1 => a1 F1 μ1 H1 _ (A1.setV v1) Mon.refl
theorem s_tset {m : Ev Val} {tg : Tg} (b : Blind Z) (q : RS W Z (fun env h => (m env h).toS fun x h => (ofOpt (bindT tg x env) h).toS fun env' h => .ok .nxt env' h) D σ H) : tAsg (RD W Z m) (gG W tg) D σ H := by
  obtain ⟨F0, μ0, H0, F, μ, env, h, A, a⟩ := q
  show RD W Z m σ H fun x H1 => gG W tg x σ H1 D.nx
  refine rs_step b A a fun v h1 F1 μ1 H1 x A1 s1 v1 a1 => ?_
  obtain ⟨env', eb, a2⟩ := aftS_opt a1
  exact ⟨F1, μ1, env, h1, v, env', A1.st, A1.en, v1, eb, fun σ' e2 _ _ o2 => a2 F1 μ1 H1 σ' ⟨A1.st, e2, A1.stp, fun a o => A1.own a (o2 a o), A1.l0⟩ Mon.refl⟩
theorem s_own {m : Ev (List Val)} {i : Nat} (b : Blind Z) (q : RS W Z (fun env h => (m env h).toS fun vs h => .ok .nxt (setAt (.own vs) env i) h) D σ H) : tAsg (RDf W Z m) (gName i) D σ H := by
  obtain ⟨F0, μ0, H0, F, μ, env, h, A, a⟩ := q
  show RDf W Z m σ H fun x H1 => D.nx (σ.set i (some x)) H1
  refine rs_step b A a fun v h1 F1 μ1 H1 x A1 s1 v1 a1 => ?_
  obtain ⟨p, xs, rfl, n, nf, nm, g, rv⟩ := v1
  refine a1 F1 μ1 H1 _ ⟨A1.st, A1.en.setOwn ⟨p, xs, rfl, g, rv, nf, nm⟩ fun j o => (A.en.own_live ⟨j, o⟩).1 n, A1.stp, fun c o => ?_, A1.l0⟩ Mon.refl
  obtain ⟨j, o⟩ := o
  rcases own_set2 o with ⟨_, e⟩ | ⟨_, o⟩
  · rw [e]
    exact none_back A.stp n
  · exact A1.own c ⟨j, o⟩
/-- a list of the frame's own is changed no more -/
theorem s_frz {i : Nat} {m : Env → Hs → OutS} (b : Blind Z) (q : RS W Z (fun env h => ((ofOpt (ownL env i) h).toS fun vs h => .ok .nxt (setAt (.v (.lst vs)) env i) h).bind m) D σ H) : RS W Z m D σ H := by
  obtain ⟨F0, μ0, H0, F, μ, env, h, A, a⟩ := q
  dsimp only at a
  cases ho : ownL env i with
  | none =>
    rw [ho] at a
    exact a.elim
  | some vs =>
    rw [ho] at a
    have he := own_some ho
    obtain ⟨x, e1, p, xs, rfl, g, rv, nf, nm⟩ := A.en.sl i _ he
    have own : OwnAt env σ i p := ⟨_, he, rfl, e1⟩
    have n0 := A.own p ⟨i, own⟩
    refine ⟨F0, μ0, H0, fun a => F a ∨ a = p, μ, setAt (.v (.lst vs)) env i, h, ⟨A.st.grow (by rw [g]; exact fun z => by cases z) nm, ⟨by unfold setAt; rw [List.length_set]; exact A.en.len, fun j t e => ?_, fun j k c h1 h2 => ?_⟩, A.stp.freeze n0, fun c oc => ?_, A.l0⟩, AftS.rebase b Mon.grow a⟩
    · rcases getSet e with ⟨rfl, z⟩ | ⟨hn, z⟩
      · cases z
        exact ⟨_, e1, p, xs, rfl, .inr rfl, g, RVs.grow vs xs rv⟩
      · obtain ⟨y, e2, q2⟩ := A.en.sl j t z
        refine ⟨y, e2, ?_⟩
        have nv : ∀ c, ¬ F c → isOwn t = true → y = .ref c → ¬ (F c ∨ c = p) := fun c nfc ht ey hc => by
          rcases hc with hc | hc
          · exact nfc hc
          · refine hn (A.en.sep i j p own ⟨t, z, ht, ?_⟩)
            rw [e2, ey, hc]
        cases t with
        | v v => exact RV.grow v y q2
        | own ws =>
          obtain ⟨c, ys, ey, g2, r2, nf2, nm2⟩ := q2
          exact ⟨c, ys, ey, g2, RVs.grow ws ys r2, nv c nf2 rfl ey, nm2⟩
        | ownD ks ws =>
          obtain ⟨c, kvs, ey, g2, nf2, nm2, k2, r2⟩ := q2
          exact ⟨c, kvs, ey, g2, nv c nf2 rfl ey, nm2, k2, RVs.grow ws _ r2⟩
        | ownI ns ws =>
          obtain ⟨c, dx, fs, ey, g2, n2, r2, nf2, nm2⟩ := q2
          exact ⟨c, dx, fs, ey, g2, n2, RVs.grow ws _ r2, nv c nf2 rfl ey, nm2⟩
    · have w : ∀ j b, OwnAt (setAt (.v (.lst vs)) env i) σ j b → OwnAt env σ j b := fun j b ⟨t, e1, e2, e3⟩ => by
        rcases getSet e1 with ⟨rfl, z⟩ | ⟨_, z⟩
        · cases z
          cases e2
        · exact ⟨t, z, e2, e3⟩
      exact A.en.sep j k c (w j c h1) (w k c h2)
    · obtain ⟨j, t, e1, e2, e3⟩ := oc
      rcases getSet e1 with ⟨rfl, z⟩ | ⟨_, z⟩
      · cases z
        cases e2
      · exact A.own c ⟨j, t, z, e2, e3⟩
theorem s_app {m : Ev Val} {i : Nat} (K : PySem.W.Frag) (b : Blind Z) (q : RS W Z (fun env h => (ofOpt (ownL env i) h).toS fun vs h => (m env h).toS fun x h => if decide (vs.length ≤ most) then .ok .nxt (setAt (.own (vs ++ [x])) env i) h else .bad) D σ H) :
    tDrop (tBM K "list" rAppend (tVar i) (tCons (RD W Z m) tNil)) D σ H := by
  obtain ⟨F0, μ0, H0, F, μ, env, h, A, a⟩ := q
  obtain ⟨vs, ho, a⟩ := aftS_opt a
  have he := own_some ho
  obtain ⟨x, e1, p, xs, rfl, g, rv, nf, nm⟩ := A.en.sl i _ he
  refine ⟨.ref p, e1, .inl ⟨rfl, xs, SqL.of g⟩, ?_⟩
  show RD W Z m σ H fun y H1 => rAppend (.ref p) [y] H1 fun _ H2 => D.nx σ H2
  refine rs_step b A a fun v h1 F1 μ1 H1 y A1 s1 v1 a1 => ?_
  by_cases hl : decide (vs.length ≤ most) = true
  · rw [if_pos hl] at a1
    obtain ⟨x', e1', p', xs', ex, g1, rv1, nf1, nm1⟩ := A1.en.sl i _ he
    rw [e1] at e1'
    cases e1'
    cases ex
    refine ⟨p, xs', y, rfl, rfl, g1, ?_, ?_⟩
    · rw [← RVs.length rv1]
      exact Nat.lt_of_le_of_lt (of_decide_eq_true hl) (by rw [sizeLine_eq]; decide)
    · obtain ⟨A2, M2⟩ := A1.put (s' := .own (vs ++ [v])) (o := .lst (xs' ++ [y])) he rfl e1 ⟨p, xs' ++ [y], rfl, upd_same, RVs.out nf1 _ _ (RVs.append rv1 ⟨y, [], rfl, v1, rfl⟩), nf1, nm1⟩
      exact a1 F1 μ1 _ σ A2 M2
  · rw [if_neg hl] at a1
    exact a1.elim
theorem s_oset {mi mv : Ev Val} {x : Nat} (b : Blind Z) (q : RS W Z (fun env h => (ofOpt (ownL env x) h).toS fun vs h => (mv env h).toS fun v h => (mi env h).toS fun k h => (ofOpt ((asI k).bind fun k => Pyi.ixN vs.length k) h).toS fun j h =>
      .ok .nxt (setAt (.own (vs.set j v)) env x) h) D σ H) : tAsg (RD W Z mv) (gSub (tVar x) (RD W Z mi) rSetL) D σ H := by
  obtain ⟨F0, μ0, H0, F, μ, env, h, A, a⟩ := q
  obtain ⟨vs, ho, a⟩ := aftS_opt a
  have he := own_some ho
  show RD W Z mv σ H fun y H1 => ∃ o, σ[x]? = some (some o) ∧ RD W Z mi σ H1 fun i H2 => rSetL o i y H2 fun H3 => D.nx σ H3
  refine rs_step b A a fun v h1 F1 μ1 H1 y A1 s1 v1 a1 => ?_
  obtain ⟨z, e1, p, xs, rfl, g, rv, nf, nm⟩ := A1.en.sl x _ he
  refine ⟨_, e1, ?_⟩
  refine rs_step b A1 a1 fun w h2 F2 μ2 H2 i A2 s2 v2 a2 => ?_
  obtain ⟨j, ej, a3⟩ := aftS_opt a2
  obtain ⟨z, e1', p', xs', ex, g1, rv1, nf1, nm1⟩ := A2.en.sl x _ he
  rw [e1] at e1'
  cases e1'
  cases ex
  cases w with
  | int k =>
    have ej' : L2.ixN xs'.length k = some j := by rw [← RVs.length rv1]; exact ej
    refine ⟨p, xs', k, j, rfl, v2, g1, ej', ?_⟩
    obtain ⟨A3, M3⟩ := A2.put (s' := .own (vs.set j v)) (o := .lst (xs'.set j y)) he rfl e1 ⟨p, xs'.set j y, rfl, upd_same, RVs.out nf1 _ _ (RVs.set j rv1 (RV.mono s2 v y v1)), nf1, nm1⟩
    exact a3 F2 μ2 _ σ A3 M3
  | _ => cases ej
/-- a list that changes is written -/
theorem RSt.put {n : Nat} {a : Addr} {vs : List Val} {xs : List V} (r : RSt W F μ H h) (e : μ[n]? = some a) (q : RVs W F μ H vs xs) : RSt W F μ (upd H a (.lst xs)) (h.set n (.lst vs)) := by
  have nf := r.nf a (List.mem_of_getElem? e)
  refine ⟨by rw [List.length_set]; exact r.len, r.nd, fun k o c h1 h2 => ?_, r.nf, fun c hc => ?_, fun c hc => ?_⟩
  · rcases getSet h1 with ⟨rfl, z⟩ | ⟨hn, z⟩
    · cases z
      rw [e] at h2
      cases h2
      exact ⟨xs, upd_same, RVs.out nf vs xs q⟩
    · have ne : c ≠ a := fun z => by
        have l1 := (List.getElem?_eq_some_iff.mp e).1
        have l2 := (List.getElem?_eq_some_iff.mp h2).1
        have e1 := (List.getElem?_eq_some_iff.mp e).2
        have e2 := (List.getElem?_eq_some_iff.mp h2).2
        exact hn ((List.getElem_inj r.nd).mp (by rw [e1, e2, z]))
      have q0 := r.ob k o c z h2
      cases o with
      | lst ws =>
        obtain ⟨ys, g, q1⟩ := q0
        exact ⟨ys, (upd_ne ne).trans g, RVs.out nf ws ys q1⟩
      | ins cc ns ws =>
        obtain ⟨dx, fs, g, n1, q1⟩ := q0
        exact ⟨dx, fs, (upd_ne ne).trans g, n1, RVs.out nf ws _ q1⟩
  · by_cases z : c = a
    · rw [z, upd_same]; exact fun q => by cases q
    · rw [upd_ne z]; exact r.lm c hc
  · rw [upd_ne (show c ≠ a from fun z => nf (z ▸ hc))]
    exact r.lf c hc
theorem s_setI {mo mi mv : Ev Val} (b : Blind Z) (q : RS W Z (fun env h => (mv env h).toS fun v h => (mo env h).toS fun o h => (mi env h).toS fun k h => (ofOpt (setH h o k v) h).toS fun h' _ => .ok .nxt env h') D σ H) :
    tAsg (RD W Z mv) (gSub (RD W Z mo) (RD W Z mi) rSetL) D σ H := by
  obtain ⟨F0, μ0, H0, F, μ, env, h, A, a⟩ := q
  show RD W Z mv σ H fun y H1 => RD W Z mo σ H1 fun o H2 => RD W Z mi σ H2 fun i H3 => rSetL o i y H3 fun H4 => D.nx σ H4
  refine rs_step b A a fun v h1 F1 μ1 H1 y A1 s1 v1 a1 => ?_
  refine rs_step b A1 a1 fun o h2 F2 μ2 H2 y2 A2 s2 v2 a2 => ?_
  refine rs_step b A2 a2 fun w h3 F3 μ3 H3 y3 A3 s3 v3 a3 => ?_
  obtain ⟨h', eh, a4⟩ := aftS_opt a3
  cases o with
  | ref n =>
    cases w with
    | int k =>
      obtain ⟨p, em, rfl⟩ := v2
      have em := s3.mu em
      have eh' : (match h3[n]? with
        | some (.lst vs) => (Pyi.ixN vs.length k).map fun j => h3.set n (.lst (vs.set j v))
        | _ => none) = some h' := eh
      cases hn : h3[n]? with
      | none => rw [hn] at eh'; cases eh'
      | some ob =>
        rw [hn] at eh'
        cases ob with
        | ins _ _ _ => cases eh'
        | lst vs =>
          obtain ⟨j, ej, e2⟩ := Option.map_eq_some_iff.mp eh'
          subst e2
          obtain ⟨xs, g, rv⟩ := A3.st.ob n _ p hn em
          have ej' : L2.ixN xs.length k = some j := by rw [← RVs.length rv]; exact ej
          refine ⟨p, xs, k, j, rfl, v3, g, ej', ?_⟩
          have nf := A3.st.nf p (List.mem_of_getElem? em)
          have no : ¬ Own env σ p := fun ow => (A3.en.own_live ow).2.2 (List.mem_of_getElem? em)
          refine a4 F3 μ3 _ σ ⟨A3.st.put em (RVs.set j rv (RV.mono (s2.trans s3) v y v1)), A3.en.out nf no, ?_, A3.own, A3.l0⟩ (Mon.out nf)
          have s := A3.stp
          exact {
            f := s.f
            m := s.m
            fz := fun c fc => (upd_ne (show c ≠ p from fun z => nf (z ▸ s.f c fc))).trans (s.fz c fc)
            keep := fun c u e m => by
              by_cases z : c = p
              · rw [z] at e m
                rcases s.mn p (List.mem_of_getElem? em) with t | t
                · exact absurd t m
                · rw [e] at t; cases t
              · exact (upd_ne z).trans (s.keep c u e m)
            fn := s.fn
            mn := s.mn
            lv := fun c e => by
              by_cases z : c = p
              · rw [z, upd_same]; exact fun q => by cases q
              · rw [upd_ne z]; exact s.lv c e }
    | _ => cases eh
  | _ => cases eh
theorem s_par2 {m : Ev (List Val)} {i j : Nat} (b : Blind Z) (hl : ∀ env h vs h', m env h = .ok vs h' → vs.length = 2) (q : RS W Z (fun env h => (m env h).toS fun vs h => .ok .nxt (setSlots env [i, j] vs) h) D σ H) : tPar i j (RDs W Z m) D σ H := by
  obtain ⟨F0, μ0, H0, F, μ, env, h, A, a⟩ := q
  show RDs W Z m σ H fun vs H1 => ∃ v w, vs = [v, w] ∧ D.nx ((σ.set i (some v)).set j (some w)) H1
  cases hm : m env h with
  | ok vs h1 =>
    have l := hl _ _ _ _ hm
    refine ⟨F, μ, env, h, A.st, A.en, ?_⟩
    dsimp only at a
    rw [hm] at a ⊢
    intro F1 μ1 H1 xs r1 s1 v1
    match vs, l, v1 with
    | [x, y], _, v1 =>
      obtain ⟨x', y', rfl, q1, q2⟩ := vs2 v1
      refine ⟨x', y', rfl, ?_⟩
      have a' : ∀ F' μ' H' σ', At W F0 μ0 H0 F' μ' H' h1 (setSlots env [i, j] [x, y]) σ' → Mon F μ H F' μ' H' → D.nx σ' H' := a
      exact a' F1 μ1 H1 _ (((A.step r1 s1).setV q1).setV q2) s1.mon
  | exc c v h1 =>
    refine ⟨F, μ, env, h, A.st, A.en, ?_⟩
    dsimp only at a
    rw [hm] at a ⊢
    have a' : Exq W Z F0 μ0 H0 σ c v h1 := a
    exact Exq.trans a' A.stp
  | bad =>
    dsimp only at a
    rw [hm] at a
    exact a.elim
theorem s_par3 {m : Ev (List Val)} {i j k : Nat} (b : Blind Z) (hl : ∀ env h vs h', m env h = .ok vs h' → vs.length = 3) (q : RS W Z (fun env h => (m env h).toS fun vs h => .ok .nxt (setSlots env [i, j, k] vs) h) D σ H) : tPar3 i j k (RDs W Z m) D σ H := by
  obtain ⟨F0, μ0, H0, F, μ, env, h, A, a⟩ := q
  show RDs W Z m σ H fun vs H1 => ∃ u v w, vs = [u, v, w] ∧ D.nx (((σ.set i (some u)).set j (some v)).set k (some w)) H1
  cases hm : m env h with
  | ok vs h1 =>
    have l := hl _ _ _ _ hm
    refine ⟨F, μ, env, h, A.st, A.en, ?_⟩
    dsimp only at a
    rw [hm] at a ⊢
    intro F1 μ1 H1 xs r1 s1 v1
    match vs, l, v1 with
    | [x, y, z], _, v1 =>
      obtain ⟨x', r, rfl, q1, v2⟩ := v1
      obtain ⟨y', z', rfl, q2, q3⟩ := vs2 v2
      refine ⟨x', y', z', rfl, ?_⟩
      have a' : ∀ F' μ' H' σ', At W F0 μ0 H0 F' μ' H' h1 (setSlots env [i, j, k] [x, y, z]) σ' → Mon F μ H F' μ' H' → D.nx σ' H' := a
      exact a' F1 μ1 H1 _ ((((A.step r1 s1).setV q1).setV q2).setV q3) s1.mon
  | exc c v h1 =>
    refine ⟨F, μ, env, h, A.st, A.en, ?_⟩
    dsimp only at a
    rw [hm] at a ⊢
    have a' : Exq W Z F0 μ0 H0 σ c v h1 := a
    exact Exq.trans a' A.stp
  | bad =>
    dsimp only at a
    rw [hm] at a
    exact a.elim
theorem s_aug {m : Ev Val} {i : Nat} {o : BOp} {op : Int → Int → Int} (b : Blind Z) (ho : ∀ x y z, augop o x y = some z → ∃ i j, x = .int i ∧ y = .int j ∧ z = .int (op i j))
    (q : RS W Z (fun env h => (ofOpt (varV env i) h).toS fun x h => (m env h).toS fun y h => (ofOpt (augop o x y) h).toS fun z h => .ok .nxt (setAt (.v z) env i) h) D σ H) : tAug i (RD W Z m) (ipI op) D σ H := by
  obtain ⟨F0, μ0, H0, F, μ, env, h, A, a⟩ := q
  obtain ⟨x, hx, a⟩ := aftS_opt a
  obtain ⟨z, e1, q1⟩ := A.en.sl i _ (var_some hx)
  refine ⟨z, e1, ?_⟩
  refine rs_step b A a fun v h1 F1 μ1 H1 y A1 s1 v1 a1 => ?_
  obtain ⟨u, eu, a2⟩ := aftS_opt a1
  obtain ⟨k, l, rfl, rfl, rfl⟩ := ho _ _ _ eu
  exact ⟨k, l, q1, v1, a2 F1 μ1 H1 _ (A1.setV rfl) Mon.refl⟩
theorem s_ret {m : Ev Val} (b : Blind Z) (q : RS W Z (fun env h => (m env h).toS fun x h => .ok (.ret x) env h) D σ H) : tRet (RD W Z m) D σ H := by
  obtain ⟨F0, μ0, H0, F, μ, env, h, A, a⟩ := q
  show RD W Z m σ H D.rt
  exact rs_step b A a fun v h1 F1 μ1 H1 x A1 s1 v1 a1 => a1 F1 μ1 H1 x A1.st A1.stp v1
theorem s_retN (q : RS W Z (fun env h => .ok (.ret .non) env h) D σ H) : tRetN D σ H := by
  obtain ⟨F0, μ0, H0, F, μ, env, h, A, a⟩ := q
  exact a F μ H _ A.st A.stp rfl
theorem s_ex {m : Ev Val} (b : Blind Z) (q : RS W Z (fun env h => (m env h).toS fun _ h => .ok .nxt env h) D σ H) : tDrop (RD W Z m) D σ H := by
  obtain ⟨F0, μ0, H0, F, μ, env, h, A, a⟩ := q
  show RD W Z m σ H fun _ H1 => D.nx σ H1
  exact rs_step b A a fun v h1 F1 μ1 H1 x A1 s1 v1 a1 => a1 F1 μ1 H1 σ A1 Mon.refl
theorem s_pass (q : RS W Z (fun env h => .ok .nxt env h) D σ H) : tNext D σ H := by
  obtain ⟨F0, μ0, H0, F, μ, env, h, A, a⟩ := q
  exact a F μ H σ A Mon.refl
theorem s_seq {m1 m2 : Env → Hs → OutS} (q : RS W Z (fun env h => (m1 env h).bind m2) D σ H) (b : Blind Z) : tSeq (RS W Z m1) (RS W Z m2) D σ H := by
  obtain ⟨F0, μ0, H0, F, μ, env, h, A, a⟩ := q
  refine ⟨F0, μ0, H0, F, μ, env, h, A, ?_⟩
  dsimp only at a
  cases hm : m1 env h with
  | ok f e1 h1 =>
    rw [hm] at a
    cases f with
    | nxt =>
      intro F' μ' H' σ' A' mm
      have a' : AftS W Z F0 μ0 H0 F μ H σ (m2 e1 h1) D := a
      exact ⟨F0, μ0, H0, F', μ', e1, h1, A', a'.rebase b mm⟩
    | ret v => exact a
  | exc c v h1 =>
    rw [hm] at a
    exact a
  | bad =>
    rw [hm] at a
    exact a
theorem s_if {mc : Ev Val} {ma mb : Env → Hs → OutS} (b : Blind Z) (q : RS W Z (fun env h => (mc env h).toS fun x h => (ofOpt (asB x) h).toS fun t h => if t then ma env h else mb env h) D σ H) : tIfS (RDb W Z mc) (RS W Z ma) (RS W Z mb) D σ H := by
  obtain ⟨F0, μ0, H0, F, μ, env, h, A, a⟩ := q
  show RDb W Z mc σ H fun c H1 => if c = true then RS W Z ma D σ H1 else RS W Z mb D σ H1
  have a' : AftS W Z F0 μ0 H0 F μ H σ (((mc env h).bind fun x h => ofOpt (asB x) h).toS fun t h => if t then ma env h else mb env h) D := by
    cases hm : mc env h with
    | ok v h1 =>
      dsimp only at a
      rw [hm] at a
      exact a
    | _ =>
      dsimp only at a
      rw [hm] at a
      exact a
  have st := rs_step (R := fun _ _ _ _ (b c : Bool) => b = c) (m := fun env h => (mc env h).bind fun x h => ofOpt (asB x) h) (Q := fun c H1 => if c = true then RS W Z ma D σ H1 else RS W Z mb D σ H1) b A a' fun t h1 F1 μ1 H1 c A1 s1 hc a1 => by
    subst hc
    cases t with
    | true => exact ⟨F0, μ0, H0, F1, μ1, env, h1, A1, a1⟩
    | false => exact ⟨F0, μ0, H0, F1, μ1, env, h1, A1, a1⟩
  exact st
theorem s_for {mi : Ev (List Val)} {tg : Tg} {mb : Env → Hs → OutS} (b : Blind Z) (q : RS W Z (fun env h => (mi env h).toS fun xs h => loopF (fun x env h => (ofOpt (bindT tg x env) h).toS fun env' h => mb env' h) xs env h) D σ H) :
    tFor (RDi W Z mi) (gG W tg) (RS W Z mb) D σ H := by
  obtain ⟨F0, μ0, H0, F, μ, env, h, A, a⟩ := q
  show RDi W Z mi σ H _
  refine rs_step b A a fun xs h1 F1 μ1 H1 J A1 s1 wk a1 => ?_
  generalize hG : (fun (x : Val) (env : Env) (h : Hs) => (ofOpt (bindT tg x env) h).toS fun env' h => mb env' h) = G at a1
  let Wv : Nat → Nat → L2.St → Hp → Prop := fun i m σ' H' => m = xs.length - i ∧ i ≤ xs.length ∧ ∃ F' μ' env' h', At W F0 μ0 H0 F' μ' H' h' env' σ' ∧ Mon F1 μ1 H1 F' μ' H' ∧ AftS W Z F0 μ0 H0 F' μ' H' σ' (loopF G (xs.drop i) env' h') D
  refine ⟨Wv, ⟨xs.length, by simp, Nat.zero_le _, F1, μ1, env, h1, A1, Mon.refl, a1⟩, fun i m σc Hc w => ?_⟩
  obtain ⟨em, le, Fc, μc, ec, hc, Ac, Mc, ac⟩ := w
  have w1 := wk Fc μc Hc hc Ac.st Mc
  by_cases hie : i = xs.length
  · subst hie
    refine .inl ⟨w1.2, ?_⟩
    rw [List.drop_length] at ac
    exact ac Fc μc Hc σc Ac Mon.refl
  · have hlt : i < xs.length := by omega
    have hv : xs[i]? = some xs[i] := List.getElem?_eq_getElem hlt
    rw [drop_cons hv] at ac
    obtain ⟨go, yl⟩ := w1.1 i xs[i] hv
    refine .inr ⟨go, Wv (i + 1) (xs.length - (i + 1)), fun σ' H' n => ⟨xs.length - (i + 1), by omega, n⟩, fun y H' hy => ?_⟩
    obtain ⟨F2, r2, s2, v2⟩ := yl y H' hy
    have A2 := Ac.step r2 s2
    have ac1 : AftS W Z F0 μ0 H0 Fc μc Hc σc ((G xs[i] ec hc).bind fun env h => loopF G (xs.drop (i + 1)) env h) D := ac
    rw [← hG] at ac1
    dsimp only at ac1
    cases eb : bindT tg xs[i] ec with
    | none =>
      rw [eb] at ac1
      exact ac1.elim
    | some e2 =>
      rw [eb] at ac1
      refine ⟨F2, μc, ec, hc, xs[i], e2, r2, A2.en, v2, eb, fun σ2 re2 n2 l2 o2 => ?_⟩
      have A3 : At W F0 μ0 H0 F2 μc H' hc e2 σ2 := ⟨r2, re2, A2.stp, fun a o => A2.own a (o2 a o), A2.l0⟩
      refine ⟨F0, μ0, H0, F2, μc, e2, hc, A3, ?_⟩
      have ac2 : AftS W Z F0 μ0 H0 Fc μc Hc σc ((mb e2 hc).bind fun env h => loopF (fun (x : Val) (env : Env) (h : Hs) => (ofOpt (bindT tg x env) h).toS fun env' h => mb env' h) (xs.drop (i + 1)) env h) D := ac1
      rw [hG] at ac2
      cases hm : mb e2 hc with
      | ok f e4 h4 =>
        rw [hm] at ac2
        cases f with
        | nxt =>
          intro F5 μ5 H5 σ5 A5 M5
          have ac3 : AftS W Z F0 μ0 H0 Fc μc Hc σc (loopF G (xs.drop (i + 1)) e4 h4) D := ac2
          have mm := s2.mon.trans M5
          exact ⟨rfl, hlt, F5, μ5, e4, h4, A5, Mc.trans mm, ac3.rebase b mm⟩
        | ret v => exact ac2
      | exc c v h4 =>
        rw [hm] at ac2
        have ac3 : Exq W Z F0 μ0 H0 σc c v h4 := ac2
        exact Exq.sig b ac3
      | bad =>
        rw [hm] at ac2
        exact ac2.elim
theorem s_while {mc : Ev Val} {mb : Env → Hs → OutS} {n : Nat} (b : Blind Z) (q : RS W Z (fun env h => loopW (fun env h => (mc env h).bind fun x h => ofOpt (asB x) h) mb n env h) D σ H) : tWhile (RDb W Z mc) (RS W Z mb) D σ H := by
  obtain ⟨F0, μ0, H0, F, μ, env, h, A, a⟩ := q
  generalize hC : (fun (env : Env) (h : Hs) => (mc env h).bind fun x h => ofOpt (asB x) h) = C at a
  let Wv : Nat → L2.St → Hp → Prop := fun m σ' H' => ∃ F' μ' env' h', At W F0 μ0 H0 F' μ' H' h' env' σ' ∧ AftS W Z F0 μ0 H0 F' μ' H' σ' (loopW C mb m env' h') D
  refine ⟨Wv, ⟨n, F, μ, env, h, A, a⟩, fun m σc Hc w => ?_⟩
  obtain ⟨Fc, μc, ec, hc, Ac, ac⟩ := w
  cases m with
  | zero => exact ac.elim
  | succ m =>
    have ac1 : AftS W Z F0 μ0 H0 Fc μc Hc σc ((C ec hc).toS fun t h => if t then (mb ec h).bind fun env h => loopW C mb m env h else .ok .nxt ec h) D := ac
    rw [← hC] at ac1
    have st := rs_step (R := fun _ _ _ _ (b c : Bool) => b = c) (m := fun env h => (mc env h).bind fun x h => ofOpt (asB x) h)
      (Q := fun c H1 => if c = true then ∃ N : L2.St → Hp → Prop, (∀ σ' H', N σ' H' → ∃ m', m' < m + 1 ∧ Wv m' σ' H') ∧ RS W Z mb { D with nx := N, ct := N, bk := D.nx } σc H1 else D.nx σc H1) b Ac ac1 fun t h1 F1 μ1 H1 c A1 s1 hc a1 => by
      subst hc
      cases t with
      | true =>
        rw [if_pos rfl] at a1 ⊢
        refine ⟨Wv m, fun σ' H' w => ⟨m, Nat.lt_succ_self _, w⟩, F0, μ0, H0, F1, μ1, ec, h1, A1, ?_⟩
        rw [hC] at a1
        cases hm : mb ec h1 with
        | ok f e4 h4 =>
          rw [hm] at a1
          cases f with
          | nxt =>
            intro F5 μ5 H5 σ5 A5 M5
            have a2 : AftS W Z F0 μ0 H0 F1 μ1 H1 σc (loopW C mb m e4 h4) D := a1
            exact ⟨F5, μ5, e4, h4, A5, a2.rebase b M5⟩
          | ret v => exact a1
        | exc c v h4 =>
          rw [hm] at a1
          exact a1
        | bad =>
          rw [hm] at a1
          exact a1.elim
      | false =>
        rw [if_neg Bool.false_ne_true] at a1 ⊢
        exact a1 F1 μ1 H1 σc A1 Mon.refl
    exact st
/-! ### dicts -/
theorem s_ownD {i : Nat} (b : Blind Z) (q : RS W Z (fun env h => .ok .nxt (setAt (.ownD [] []) env i) h) D σ H) : tAsg tDNewT (gName i) D σ H := by
  obtain ⟨F0, μ0, H0, F, μ, env, h, A, a⟩ := q
  intro p np
  have r := A.st.fresh (o := .dT []) np
  have s := Stp.fresh (F := F) (μ := μ) (o := .dT []) np (A.st.notF np)
  have A1 := A.step r s
  have a' : ∀ F' μ' H' σ', At W F0 μ0 H0 F' μ' H' h (setAt (.ownD [] []) env i) σ' → Mon F μ H F' μ' H' → D.nx σ' H' := a
  refine a' F μ _ _ ⟨A1.st, A1.en.setOwn ⟨p, [], rfl, upd_same, A.st.notF np, A.st.notM np, rfl, rfl⟩ fun j o => (A.en.own_live ⟨j, o⟩).1 np, A1.stp, fun c o => ?_, A1.l0⟩ s.mon
  obtain ⟨j, o⟩ := o
  rcases own_set2 o with ⟨_, e⟩ | ⟨_, o⟩
  · rw [e]
    exact none_back A.stp np
  · exact A.own c ⟨j, o⟩
theorem s_dset {mk mv : Ev Val} {x : Nat} (b : Blind Z) (q : RS W Z (fun env h => (ofOpt (ownDL env x) h).toS fun d h => (mv env h).toS fun v h => (mk env h).toS fun k h =>
      if keyT k && decide (d.1.length ≤ most) then .ok .nxt (setAt (.ownD (dput d.1 d.2 k v).1 (dput d.1 d.2 k v).2) env x) h else .bad) D σ H) : sDPut (tVar x) (RD W Z mk) (RD W Z mv) D σ H := by
  obtain ⟨F0, μ0, H0, F, μ, env, h, A, a⟩ := q
  obtain ⟨d, ho, a⟩ := aftS_opt a
  have he := ownD_some0 ho
  show RD W Z mv σ H fun v H1 => ∃ o, σ[x]? = some (some o) ∧ RD W Z mk σ H1 fun y H3 => ∃ a H4, o = .ref a ∧ DPut H3 a y v H4 ∧ D.nx σ H4
  refine rs_step b A a fun v h1 F1 μ1 H1 y A1 s1 v1 a1 => ?_
  obtain ⟨z, e1, p, kvs, rfl, g, nf, nm, ek, rv⟩ := A1.en.sl x _ he
  refine ⟨_, e1, ?_⟩
  refine rs_step b A1 a1 fun w h2 F2 μ2 H2 i A2 s2 v2 a2 => ?_
  by_cases hc : (keyT w && decide (d.1.length ≤ most)) = true
  · rw [if_pos hc] at a2
    obtain ⟨c1, c2⟩ := and2 hc
    have c2 := of_decide_eq_true c2
    obtain ⟨z, e1', p', kvs', ex, g1, nf1, nm1, ek1, rv1⟩ := A2.en.sl x _ he
    rw [e1] at e1'
    cases e1'
    cases ex
    obtain ⟨c, ks, ew, rfl, fc, gc⟩ := key_of_T c1 v2
    have hl : kvs'.length < sizeLine := by
      have : d.1.length = kvs'.length := by rw [ek1, List.length_map]
      rw [← this]
      exact Nat.lt_of_le_of_lt c2 (by rw [sizeLine_eq]; decide)
    refine ⟨p, _, rfl, DPut.t g1 gc hl, ?_⟩
    obtain ⟨A3, M3⟩ := A2.put (s' := .ownD (dput d.1 d.2 w v).1 (dput d.1 d.2 w v).2) (o := .dT (putK kvs' ks y)) he rfl e1 ⟨p, putK kvs' ks y, rfl, upd_same, nf1, nm1, by rw [ek1, ew]; exact putK_dput, by
      rw [ek1, ew]
      exact RVs.out nf1 _ _ (putK_vals rv1 (RV.mono s2 v y v1))⟩
    exact a2 F2 μ2 _ σ A3 M3
  · rw [if_neg hc] at a2
    exact a2.elim
theorem bind_slots : ∀ (is : List Nat) (ns : List Int) (env : Env), is.length = ns.length → bindTs (is.map Tg.v) (ns.map Val.int) env = some (setSlots env is (ns.map Val.int))
  | [], [], _, _ => rfl
  | [], _ :: _, _, h => by cases h
  | _ :: _, [], _, h => by cases h
  | i :: is, n :: ns, env, h => bind_slots is ns (env.set i (some (.v (.int n)))) (Nat.succ.inj h)
theorem s_unK {K : PySem.W.Frag} {is : List Nat} {ns : List Int} {a : Addr} (b : Blind Z) (hl : is.length = ns.length) (hk : ∀ H, SqT K H a (ns.map V.int)) (q : RS W Z (fun env h => .ok .nxt (setSlots env is (ns.map .int)) h) D σ H) :
    tAsg (tC (.ref a)) (fun x σ H Q => ∃ b xs, x = .ref b ∧ SqT K H b xs ∧ xs.length = is.length ∧ gGs W (is.map Tg.v) xs σ H Q) D σ H := by
  obtain ⟨F0, μ0, H0, F, μ, env, h, A, aa⟩ := q
  refine ⟨a, _, rfl, hk H, by rw [List.length_map, hl], F, μ, env, h, ns.map .int, _, A.st, A.en, RVs.ints, bind_slots is ns env hl, fun σ' e2 _ _ o2 => ?_⟩
  have a' : ∀ F' μ' H' σ', At W F0 μ0 H0 F' μ' H' h (setSlots env is (ns.map .int)) σ' → Mon F μ H F' μ' H' → D.nx σ' H' := aa
  exact a' F μ H σ' ⟨A.st, e2, A.stp, fun c o => A.own c (o2 c o), A.l0⟩ Mon.refl
end
end Pyi
set_option Elab.async false
set_option linter.all false
set_option maxRecDepth 100000
set_option maxHeartbeats 2000000
/-! The interpreter is right: statements and defs, by the look at the text. -/
namespace Pyi
open PySem PySem.Spec PyProof.Rows L2

def asAssign : Stmt → Option (Expr × Expr × Pos)
  | .Assign ts x p => match ts with
    | [t] => some (t, x, p)
    | _ => none
  | _ => none
theorem asAssign_eq {s : Stmt} {t x : Expr} {p : Pos} (h : asAssign s = some (t, x, p)) : s = .Assign [t] x p := by
  cases s with
  | Assign ts x' p' =>
    match ts, h with
    | [], h => cases h
    | [_], h => cases h; rfl
    | _ :: _ :: _, h => cases h
  | _ => cases h
def asAug : Stmt → Option (Expr × Operator × Expr × Pos)
  | .AugAssign t o x p => some (t, o, x, p)
  | _ => none
theorem asAug_eq {s : Stmt} {t x : Expr} {o : Operator} {p : Pos} (h : asAug s = some (t, o, x, p)) : s = .AugAssign t o x p := by cases s <;> cases h; rfl
def asRet : Stmt → Option (Option Expr × Pos)
  | .Return x p => some (x, p)
  | _ => none
theorem asRet_eq {s : Stmt} {x : Option Expr} {p : Pos} (h : asRet s = some (x, p)) : s = .Return x p := by cases s <;> cases h; rfl
def asIfS : Stmt → Option (Expr × List Stmt × List Stmt × Pos)
  | .If c a b p => some (c, a, b, p)
  | _ => none
theorem asIfS_eq {s : Stmt} {c : Expr} {a b : List Stmt} {p : Pos} (h : asIfS s = some (c, a, b, p)) : s = .If c a b p := by cases s <;> cases h; rfl
def asFor : Stmt → Option (Expr × Expr × List Stmt × List Stmt × Pos)
  | .For t i b o p => some (t, i, b, o, p)
  | _ => none
theorem asFor_eq {s : Stmt} {t i : Expr} {b o : List Stmt} {p : Pos} (h : asFor s = some (t, i, b, o, p)) : s = .For t i b o p := by cases s <;> cases h; rfl
def asWhile : Stmt → Option (Expr × List Stmt × List Stmt × Pos)
  | .While c b o p => some (c, b, o, p)
  | _ => none
theorem asWhile_eq {s : Stmt} {c : Expr} {b o : List Stmt} {p : Pos} (h : asWhile s = some (c, b, o, p)) : s = .While c b o p := by cases s <;> cases h; rfl
def asExp : Stmt → Option (Expr × Pos)
  | .Expr x p => some (x, p)
  | _ => none
theorem asExp_eq {s : Stmt} {x : Expr} {p : Pos} (h : asExp s = some (x, p)) : s = .Expr x p := by cases s <;> cases h; rfl
def isPass : Stmt → Bool
  | .Pass _ => true
  | .Expr x _ => match x with
    | .Constant c _ _ => match c with
      | .str _ => true
      | _ => false
    | _ => false
  | _ => false
/-- is the name stored while the value still is in the making -/
def swB (sc : Scope) (t : Str) (tl : Nat) (x : Expr) : Bool := match x with
  | .ListComp _ _ s p => decide (sc.names.lookup t = some .local) && (tl == p.line) && !(s.names.any fun (n, k) => n == t && (k == .local || k == .cell))
  | _ => false
def locName (N : List Str) (sc : Scope) (i : Nat) (t : Expr) : Bool := match asName t with
  | some y => decide (N[i]? = some y) && locB sc y
  | none => false
/-- a name of the def that no inner one uses -/
def plainName (N : List Str) (sc : Scope) (l : Nat) (i : Nat) (t : Expr) : Bool := match asName t with
  | some y => decide (N[i]? = some y) && decide (sc.names.lookup y = some .local) && decide (t.pos.line = l)
  | none => false
/-- a tuple of which all is folded -/
def allFold (x : Expr) : Bool := match asTup x with
  | some xs => xs.all (foldedForSure 8)
  | none => false
/-- a target among a tuple's that is no plain name of the def -/
def someCell (sc : Scope) (t : Expr) : Bool := match asTup t with
  | some ts => ts.any fun t => match asName t with
    | some y => !decide (sc.names.lookup y = some .local)
    | none => false
  | none => false
def asDict : Expr → Option (List (Option Expr) × List Expr)
  | .Dict ks vs _ => some (ks, vs)
  | _ => none
theorem asDict_eq {x : Expr} {ks : List (Option Expr)} {vs : List Expr} (h : asDict x = some (ks, vs)) : ∃ p, x = .Dict ks vs p := by cases x <;> cases h; exact ⟨_, rfl⟩
section
variable (L : Lk) (N : List Str)
mutual
def chkS (s : S) (sc : Scope) (st : Stmt) : Bool := match s with
  | .set i e => match asAssign st with
    | some (t, x, _) => locName N sc i t && (notComp x || (asComp x).isSome) && chkE L N e sc sc x
    | none => false
  | .tset tg e => match asAssign st with
    | some (t, x, _) => (asTup t).isSome && ((asTup x).isNone || allFold x || someCell sc t) && notComp x && chkT N sc tg t && chkE L N e sc sc x
    | none => false
  | .par is es => match asAssign st with
    | some (t, x, _) => match asTup t, asTup x with
      | some ts, some xs => xs.all notStar && !(xs.all (foldedForSure 8)) && !(xs.all (constantsAlone 8)) && chkEs L N es sc sc xs && (match (generalizing := false) is, ts with
        | [i, j], [a, b] => plainName N sc a.pos.line i a && plainName N sc a.pos.line j b && decide (i ≠ j) && decide (xs.length = 2)
        | [i, j, k], [a, b, c] => plainName N sc a.pos.line i a && plainName N sc a.pos.line j b && plainName N sc a.pos.line k c && decide (i ≠ j) && decide (i ≠ k) && decide (j ≠ k) && decide (xs.length = 3)
        | _, _ => false)
      | _, _ => false
    | none => false
  | .unK is y ns => match asAssign st with
    | some (t, x, _) => match asTup t with
      | some ts => gnameIs sc y x && decide (L.gt y = some ns) && decide (is.length = ns.length) && ts.all notStar && chkTs N sc (is.map Tg.v) ts
      | none => false
    | none => false
  | .own i f => match asAssign st with
    | some (t, x, _) => locName N sc i t && (notComp x || (asComp x).isSome) && chkF L N f sc sc x
    | none => false
  | .ownD i => match asAssign st with
    | some (t, x, _) => locName N sc i t && (match asDict x with
      | some (ks, vs) => ks.isEmpty && vs.isEmpty
      | none => false)
    | none => false
  | .frz _ => false
  | .app i e => match asExp st with
    | some (x, _) => match asMeth x with
      | some (o, n, ap, es, ks, p) => match es with
        | [y] => ks.isEmpty && decide (n = ("append" : Str)) && (ap.endLine == p.line) && nameIs N sc i o && notStar y && chkE L N e sc sc y
        | _ => false
      | none => false
    | none => false
  | .appPop _ _ _ => false
  | .setI a i e => match asAssign st with
    | some (t, x, _) => match asSub t with
      | some (p, q) => notSlice q && notComp x && chkE L N e sc sc x && chkE L N a sc sc p && chkE L N i sc sc q
      | none => false
    | none => false
  | .oset x i e => match asAssign st with
    | some (t, y, _) => match asSub t with
      | some (p, q) => notSlice q && notComp y && chkE L N e sc sc y && nameIs N sc x p && chkE L N i sc sc q
      | none => false
    | none => false
  | .dset x k e => match asAssign st with
    | some (t, y, _) => match asSub t with
      | some (p, q) => notComp y && chkE L N e sc sc y && nameIs N sc x p && chkE L N k sc sc q
      | none => false
    | none => false
  | .aug i o e => match asAug st with
    | some (t, o', x, _) => decide (o' = opB o) && locName N sc i t && (decide (o = .add) || decide (o = .sub)) && chkE L N e sc sc x
    | none => false
  | .ret e => match asRet st with
    | some (x, _) => match x with
      | some x => chkE L N e sc sc x
      | none => false
    | none => false
  | .retN => match asRet st with
    | some (x, _) => x.isNone
    | none => false
  | .if_ c a b => match asIfS st with
    | some (x, p, q, _) => notIf x && chkE L N c sc sc x && chkSs a sc p && chkSs b sc q
    | none => false
  | .for_ tg it b => match asFor st with
    | some (t, x, p, o, _) => o.isEmpty && notSet x && chkIt L N it sc sc x && chkT N sc tg t && chkSs b sc p
    | none => false
  | .while_ c b => match asWhile st with
    | some (x, p, o, _) => o.isEmpty && notIf x && chkE L N c sc sc x && chkSs b sc p
    | none => false
  | .raise _ _ => false
  | .ex e => match asExp st with
    | some (x, _) => notComp x && chkE L N e sc sc x
    | none => false
  | .pass => isPass st
  | .nev => true
def chkSs (ss : List S) (sc : Scope) (sts : List Stmt) : Bool := match ss with
  | [] => match sts with | [] => true | _ => false
  | s :: ss => match s with
    | .frz _ => chkSs ss sc sts
    | s => match sts with | st :: sts => chkS s sc st && chkSs ss sc sts | [] => false
end
end
/-- besides Gd, for statements -/
structure Gs (X : Cx) (Z : WX) : Prop where
  own : PassesOwn (model X.prog X.w) X.A X.env X.xe
  blind : Blind Z
  kind : X.env.scope.kind = .function
section
variable {U : Nat → Option FDef} {W : Wd} {L : Lk} {k : Nat} {N : List Str} {sc : Scope} {X : Cx} {Z : WX}
theorem Gd.loc {ow : Scope} (g : Gd W k N sc ow X Z) {i : Nat} {t : Expr} (h : locName N ow i t = true) : ∃ y p, t = .Name y p ∧ X.N[i]? = some y ∧ Loc X.env.scope y ∧ (X.fn y = true ∨ X.env.scope.names.lookup y = some .local) := by
  unfold locName at h
  cases e : asName t with
  | none => rw [e] at h; cases h
  | some y =>
    rw [e] at h
    obtain ⟨p, rfl⟩ := asName_eq e
    obtain ⟨h1, h2⟩ := and2 h
    obtain ⟨l1, l2⟩ := g.st y h2
    exact ⟨y, p, rfl, by rw [g.eN]; exact of_decide_eq_true h1, l1, l2⟩
theorem Gd.plain {ow : Scope} (g : Gd W k N sc ow X Z) {i l : Nat} {t : Expr} (h : plainName N sc l i t = true) : ∃ y p, t = .Name y p ∧ X.N[i]? = some y ∧ X.env.scope.names.lookup y = some .local ∧ p.line = l := by
  unfold plainName at h
  cases e : asName t with
  | none => rw [e] at h; cases h
  | some y =>
    rw [e] at h
    obtain ⟨p, rfl⟩ := asName_eq e
    obtain ⟨h0, h2⟩ := and2 h
    obtain ⟨h0, h1⟩ := and2 h0
    exact ⟨y, p, rfl, by rw [g.eN]; exact of_decide_eq_true h0, by rw [g.sc]; exact of_decide_eq_true h1, of_decide_eq_true h2⟩
theorem blk_fn {env : PySem.Env} (hk : env.scope.kind = .function) : env.blockKind = .function := by
  unfold PySem.Env.blockKind
  rw [hk]
  rfl
theorem swaps_comp {elt : Expr} {gs : List Comprehension} {scope : Scope} {pos py : Pos} {y : Str} {l : Nat} {env : PySem.Env} (hk : env.scope.kind = .function) :
    swapsWith (.ListComp elt gs scope pos) (some (.Name y py)) l env = pure (swB env.scope y py.line (.ListComp elt gs scope pos)) := by
  have hb := blk_fn hk
  have e : (env.kindOf y == some .local) = decide (env.scope.names.lookup y = some .local) := by
    unfold PySem.Env.kindOf
    generalize env.scope.names.lookup y = o
    cases o with
    | none => rfl
    | some kd => cases kd <;> rfl
  unfold swapsWith swB
  show pure (env.blockKind == .function && (env.kindOf y == some .local) && (py.line == pos.line) && !(scope.names.any fun (n, k) => n == y && (k == .local || k == .cell))) = _
  rw [e, hb]
  rfl
/-- the parts of a list comprehension -/
theorem comp_of (hy : Hyp U W L k) {sc ow : Scope} {X : Cx} {Z : WX} (g : Gd W k N sc ow X Z) {e : E} {tg : Tg} {it : It} {cs : List E} {x : Expr} (h : chkF L N (.comp e tg it cs) sc ow x = true) :
    ∃ ex tx ix ifs scp pos, x = .ListComp ex [⟨tx, ix, ifs, 0⟩] scp pos ∧ PI X tx ix (RDi W Z (evIt (callD U k) it)) ∧ BlkOk X.N X.env.scope scp (ownOf N tg.slots) ∧
      (∀ (s : Shared) (H : Hp) (C : Addr) (cl : List (Str × Addr)) (fp : List Addr), PG (X.blk s H scp (compEnvC scp cl C X.env) fp) tx (gG W tg)) ∧
      (∀ (s : Shared) (H : Hp) (C : Addr) (cl : List (Str × Addr)) (fp : List Addr), PTs (X.blk s H scp (compEnvC scp cl C X.env) fp) ifs (RDg W Z0 (fun _ _ _ _ b c => b = c) (evC (callD U k) cs))) ∧
      (∀ (s : Shared) (H : Hp) (C : Addr) (cl : List (Str × Addr)) (fp : List Addr), PE (X.blk s H scp (compEnvC scp cl C X.env) fp) ex (RD W Z0 (evE (callD U k) e))) ∧ ∀ x, foldedSetIterable ix X.env x = pure x := by
  have h' : (match asComp x with
    | some (ex, gs, scp) => match gs with
      | [⟨tx, ix, ifs, as⟩] => decide (as = 0) && notSet ix && chkIt L N it sc ow ix && blkC N sc scp (ownOf N tg.slots) && chkT N scp tg tx && chkC L N cs (relS scp sc) scp ifs && chkE L N e (relS scp sc) scp ex
      | _ => false
    | none => false) = true := h
  cases e1 : asComp x with
  | none => rw [e1] at h'; cases h'
  | some t =>
    obtain ⟨ex, gs, scp⟩ := t
    rw [e1] at h'
    obtain ⟨pos, hx⟩ := asComp_eq e1
    match gs, h', hx with
    | [], h', _ => cases h'
    | ⟨_, _, _, _⟩ :: _ :: _, h', _ => cases h'
    | [⟨tx, ix, ifs, as⟩], h', hx =>
      subst hx
      obtain ⟨h0, h6⟩ := and2 h'
      obtain ⟨h0, h5⟩ := and2 h0
      obtain ⟨h0, h4⟩ := and2 h0
      obtain ⟨h0, h3⟩ := and2 h0
      obtain ⟨h0, h2⟩ := and2 h0
      obtain ⟨h0, h1⟩ := and2 h0
      have h0 := of_decide_eq_true h0
      subst h0
      have ok : BlkOk X.N X.env.scope scp (ownOf N tg.slots) := by
        rw [g.eN, g.sc]
        exact blkOk_by h3
      exact ⟨ex, tx, ix, ifs, scp, pos, rfl, sndIt hy it tx ix g h2, ok, fun s H C cl fp => sndT tg tx (g.blk s H C cl fp) h4, fun s H C cl fp => sndC hy cs ifs (g.blk s H C cl fp) h5,
        fun s H C cl fp => (sndE hy e ex (g.blk s H C cl fp) h6).pe, fun x => fold_no h1 x⟩
/-- name = a list just made -/
theorem asgF (hy : Hyp U W L k) (g : Gd W k N sc sc X Z) (gs : Gs X Z) (f : FE) {i : Nat} {t x : Expr} {pos : Pos} (ht : locName N sc i t = true) (hc : (notComp x || (asComp x).isSome) = true) (h : chkF L N f sc sc x = true) :
    PS X (.Assign [t] x pos) (tAsg (RDf W Z (evF (callD U k) f)) (gName i)) := by
  obtain ⟨y, p, rfl, hN, hl, hf⟩ := g.loc ht
  have he := (sndF hy f x g h).1
  by_cases hn : notComp x = true
  · exact ps_set g.nd hN hl he (swaps_no hn) hf
  · have hn' : notComp x = false := by simpa using hn
    rw [hn', Bool.false_or] at hc
    obtain ⟨ct, ec⟩ := Option.isSome_iff_exists.mp hc
    obtain ⟨cx, cg, csc⟩ := ct
    obtain ⟨cp, rfl⟩ := asComp_eq ec
    cases f with
    | comp e tg it cs =>
      obtain ⟨ex, tx, ix, ifs, scp, pos2, hx, hi, ok, h1, h2, h3, h4⟩ := comp_of hy g h
      rw [hx] at he ⊢
      have sw := swaps_comp (elt := ex) (gs := [⟨tx, ix, ifs, 0⟩]) (scope := scp) (pos := pos2) (py := p) (y := y) (l := pos.line) gs.kind
      cases hb : swB X.env.scope y p.line (.ListComp ex [⟨tx, ix, ifs, 0⟩] scp pos2) with
      | false =>
        rw [hb] at sw
        exact ps_set g.nd hN hl he sw hf
      | true =>
        rw [hb] at sw
        obtain ⟨a1, _⟩ := and2 (show (decide (X.env.scope.names.lookup y = some .local) && (p.line == pos2.line) && !(scp.names.any fun (n, k) => n == y && (k == .local || k == .cell))) = true from hb)
        obtain ⟨a1, _⟩ := and2 a1
        refine PS.imp (ps_setLc g.calm g.nd hN (of_decide_eq_true a1) sw hi ok h1 h2 h3 h4) fun D σ H q => ?_
        show tLc _ _ _ _ _ σ H fun x H1 => gName i x σ H1 D.nx
        have q' : RDf W Z (compM (evIt (callD U k) it) tg (evC (callD U k) cs) (evE (callD U k) e)) σ H fun x H1 => gName i x σ H1 D.nx := q
        exact comp_t (ownOf_snd N _) q'
    | ofIt it => cases it <;> cases h
    | _ => cases h
theorem sw_noT {t x : Expr} {env : PySem.Env} (h : (asTup x).isNone = true) (ht : (asTup t).isSome = true) : swappedStores [t] x env = pure none := by
  obtain ⟨es, e⟩ := Option.isSome_iff_exists.mp ht
  obtain ⟨kk, p, rfl⟩ := asTup_eq e
  cases x <;> first | rfl | cases h
theorem sw_fold {t x : Expr} {env : PySem.Env} (h : allFold x = true) (ht : (asTup t).isSome = true) : swappedStores [t] x env = pure none := by
  obtain ⟨es, e⟩ := Option.isSome_iff_exists.mp ht
  obtain ⟨kk, p, rfl⟩ := asTup_eq e
  unfold allFold at h
  cases e2 : asTup x with
  | none => rw [e2] at h; cases h
  | some xs =>
    rw [e2] at h
    have h : xs.all (foldedForSure 8) = true := h
    obtain ⟨k2, p2, rfl⟩ := asTup_eq e2
    unfold swappedStores
    simp only [h, if_true]
    split
    · rfl
    · split
      · rfl
      · split <;> rfl
theorem fm_short {α β : Type} {f : α → Option β} : ∀ {l : List α} {a : α}, a ∈ l → f a = none → (l.filterMap f).length ≠ l.length
  | x :: l, a, hm, hn => by
    have le : (l.filterMap f).length ≤ l.length := List.length_filterMap_le ..
    rcases List.mem_cons.mp hm with e | hm
    · subst e
      rw [List.filterMap_cons_none hn, List.length_cons]
      omega
    · have ih := fm_short hm hn
      rw [List.filterMap_cons, List.length_cons]
      split
      · omega
      · rw [List.length_cons]
        omega
theorem sw_cell {t x : Expr} {env : PySem.Env} (h : someCell env.scope t = true) : swappedStores [t] x env = pure none := by
  unfold someCell at h
  cases e : asTup t with
  | none => rw [e] at h; cases h
  | some ts =>
    rw [e] at h
    obtain ⟨kk, p, rfl⟩ := asTup_eq e
    obtain ⟨a, ha, hb⟩ := List.any_eq_true.mp h
    by_cases hx : (asTup x).isNone = true
    · exact sw_noT hx rfl
    · cases e2 : asTup x with
      | none => rw [e2] at hx; exact absurd rfl hx
      | some xs =>
        obtain ⟨k2, p2, rfl⟩ := asTup_eq e2
        unfold swappedStores
        dsimp only
        split
        · rfl
        · split
          · rfl
          · split
            · rfl
            · rename_i h3
              exfalso
              apply h3
              refine Bool.or_eq_true_iff.mpr (.inl (bne_iff_ne.mpr (fm_short ha ?_)))
              cases e3 : asName a with
              | none => rw [e3] at hb; cases hb
              | some y =>
                rw [e3] at hb
                obtain ⟨q, rfl⟩ := asName_eq e3
                have nk : (env.kindOf y == some NameKind.local) = false := by
                  have : ¬ env.scope.names.lookup y = some .local := by simpa using hb
                  exact beq_eq_false_iff_ne.mpr this
                dsimp only
                rw [nk, Bool.false_and, if_neg Bool.false_ne_true]
theorem sw_noS {o i x : Expr} {p : Pos} {env : PySem.Env} : swappedStores [.Subscript o i p] x env = pure none := by
  cases x <;> rfl
theorem sub_asg {o i : Expr} {pos : Pos} {env : PySem.Env} (hi : notSlice i = true) (v : Value) : assign (.Subscript o i pos) env v = (do
      let ov ← holding [v] (eval o env)
      let iv ← holding [v, ov] (eval i env)
      standAt pos
      holding [v, ov, iv] (setItem ov iv v)
      release [v, ov, iv] []) := by
  cases i <;> first | rfl | cases hi
theorem ps_item {o i x : Expr} {p pos : Pos} {te to ti : TE} (ho : PE X o to) (hi : PE X i ti) (he : PE X x te) (hs : notSlice i = true) (hc : notComp x = true) : PS X (.Assign [.Subscript o i p] x pos) (tAsg te (gSub to ti rSetL)) :=
  ps_asg he (pg_sub ho hi set_list (sub_asg hs)) (by unfold swapsWithSole; exact swaps_no hc) sw_noS rfl
def isStar : Expr → Bool
  | .Starred .. => true
  | _ => false
theorem isStar_no {e : Expr} (h : notStar e = true) : isStar e = false := by cases e <;> first | rfl | cases h
theorem sw_two {env : PySem.Env} {x y : Str} {px py pt pt2 : Pos} {kt k2 : Nat} {a b : Expr} (hk : env.scope.kind = .function) (hx : env.scope.names.lookup x = some .local) (hy : env.scope.names.lookup y = some .local) (hl : py.line = px.line) (hxy : x ≠ y)
    (ns : [a, b].all notStar = true) (nf : [a, b].all (foldedForSure 8) = false) (nc : [a, b].all (constantsAlone 8) = false) :
    swappedStores [.Tuple [.Name x px, .Name y py] kt pt] (.Tuple [a, b] k2 pt2) env = pure (some [x, y]) := by
  have hb := blk_fn hk
  have kx : env.kindOf x = some .local := hx
  have ky : env.kindOf y = some .local := hy
  obtain ⟨n1, n2⟩ := and2 (show (notStar a && (notStar b && true)) = true from ns)
  obtain ⟨n2, _⟩ := and2 n2
  have hxy' : (y == x) = false := beq_eq_false_iff_ne.mpr (Ne.symm hxy)
  unfold swappedStores
  simp only [nf, nc, hb, kx, ky, hl, Expr.pos, List.filterMap_cons, List.filterMap_nil, List.length_cons, List.length_nil, List.head?_cons, Option.map_some, Option.getD_some, beq_self_eq_true, Bool.and_self, if_true, List.eraseDups_cons, List.eraseDups_nil, List.filter_cons, List.filter_nil, hxy', Bool.not_false]
  generalize hf : List.any [a, b] _ = z
  have hz : z = false := by
    rw [← hf]
    show (isStar a || (isStar b || false)) = false
    rw [isStar_no n1, isStar_no n2]
    rfl
  subst hz
  rfl
theorem sw_three {env : PySem.Env} {x y z : Str} {px py pz pt pt2 : Pos} {kt k2 : Nat} {a b c : Expr} (hk : env.scope.kind = .function) (hx : env.scope.names.lookup x = some .local) (hy : env.scope.names.lookup y = some .local) (hz : env.scope.names.lookup z = some .local)
    (hl : py.line = px.line) (hl2 : pz.line = px.line) (hxy : x ≠ y) (hxz : x ≠ z) (hyz : y ≠ z)
    (ns : [a, b, c].all notStar = true) (nf : [a, b, c].all (foldedForSure 8) = false) (nc : [a, b, c].all (constantsAlone 8) = false) :
    swappedStores [.Tuple [.Name x px, .Name y py, .Name z pz] kt pt] (.Tuple [a, b, c] k2 pt2) env = pure (some [x, y, z]) := by
  have hb := blk_fn hk
  have kx : env.kindOf x = some .local := hx
  have ky : env.kindOf y = some .local := hy
  have kz : env.kindOf z = some .local := hz
  obtain ⟨n1, n2⟩ := and2 (show (notStar a && (notStar b && (notStar c && true))) = true from ns)
  obtain ⟨n2, n3⟩ := and2 n2
  obtain ⟨n3, _⟩ := and2 n3
  have h1 : (y == x) = false := beq_eq_false_iff_ne.mpr (Ne.symm hxy)
  have h2 : (z == x) = false := beq_eq_false_iff_ne.mpr (Ne.symm hxz)
  have h3 : (z == y) = false := beq_eq_false_iff_ne.mpr (Ne.symm hyz)
  unfold swappedStores
  simp only [nf, nc, hb, kx, ky, kz, hl, hl2, Expr.pos, List.filterMap_cons, List.filterMap_nil, List.length_cons, List.length_nil, List.head?_cons, Option.map_some, Option.getD_some, beq_self_eq_true, Bool.and_self, if_true, List.eraseDups_cons, List.eraseDups_nil, List.filter_cons, List.filter_nil, h1, h2, h3, Bool.not_false]
  generalize hf : List.any [a, b, c] _ = w
  have hw : w = false := by
    rw [← hf]
    show (isStar a || (isStar b || (isStar c || false))) = false
    rw [isStar_no n1, isStar_no n2, isStar_no n3]
    rfl
  subst hw
  rfl
theorem evEs_len2 {cf : Nat → List Val → Hs → Out Val} {es : List E} {n : Nat} (h : es.length = n) : ∀ env hh vs h', evEs cf es env hh = .ok vs h' → vs.length = n := fun env hh vs h' q => by rw [evEs_len es env hh vs h' q, h]
theorem attr_name {y n : Str} {p : Pos} {env : PySem.Env} : attributeBase (.Name y p) n env (eval (.Name y p) env) = eval (.Name y p) env := by rfl
theorem bop_add {x y z : Val} (h : augop .add x y = some z) : ∃ i j, x = .int i ∧ y = .int j ∧ z = .int (i + j) := by
  cases x <;> cases y <;> cases h
  exact ⟨_, _, rfl, rfl, rfl⟩
theorem bop_sub {x y z : Val} (h : augop .sub x y = some z) : ∃ i j, x = .int i ∧ y = .int j ∧ z = .int (i - j) := by
  cases x <;> cases y <;> cases h
  exact ⟨_, _, rfl, rfl, rfl⟩
mutual
theorem sndS (hy : Hyp U W L k) (g : Gd W k N sc sc X Z) (gs : Gs X Z) : ∀ (s : S) (st : Stmt), chkS L N s sc st = true → PS X st (RS W Z (evS (callD U k) s))
  | .set i e, st, h => by
    have h' : (match asAssign st with
      | some (t, x, _) => locName N sc i t && (notComp x || (asComp x).isSome) && chkE L N e sc sc x
      | none => false) = true := h
    cases e1 : asAssign st with
    | none => rw [e1] at h'; cases h'
    | some q =>
      obtain ⟨t, x, pos⟩ := q
      rw [e1] at h'
      have est := asAssign_eq e1
      subst est
      obtain ⟨h0, h2⟩ := and2 h'
      obtain ⟨h0, h1⟩ := and2 h0
      by_cases hn : notComp x = true
      · obtain ⟨y, p, rfl, hN, hl, hf⟩ := g.loc h0
        exact PS.imp (ps_set g.nd hN hl (sndE hy e x g h2).pe (swaps_no hn) hf) fun D σ H q => s_set gs.blind q
      · cases e with
        | fr f => exact PS.imp (asgF hy g gs f h0 h1 h2) fun D σ H q => rd_freeze (s_set gs.blind q)
        | mk f => exact PS.imp (asgF hy g gs f h0 h1 h2) fun D σ H q => rd_mk (s_set gs.blind q)
        | _ =>
          have hn' : notComp x = false := by simpa using hn
          rw [hn', Bool.false_or] at h1
          obtain ⟨ct, ec⟩ := Option.isSome_iff_exists.mp h1
          obtain ⟨cx, cg, csc⟩ := ct
          obtain ⟨cp, rfl⟩ := asComp_eq ec
          cases h2
  | .tset tg e, st, h => by
    have h' : (match asAssign st with
      | some (t, x, _) => (asTup t).isSome && ((asTup x).isNone || allFold x || someCell sc t) && notComp x && chkT N sc tg t && chkE L N e sc sc x
      | none => false) = true := h
    cases e1 : asAssign st with
    | none => rw [e1] at h'; cases h'
    | some q =>
      obtain ⟨t, x, pos⟩ := q
      rw [e1] at h'
      have est := asAssign_eq e1
      subst est
      obtain ⟨h0, h4⟩ := and2 h'
      obtain ⟨h0, h3⟩ := and2 h0
      obtain ⟨h0, h2⟩ := and2 h0
      obtain ⟨h0, h1⟩ := and2 h0
      have h1e : (assignEach [t] X.env).map (·.2) = [assign t X.env] := by
        obtain ⟨es, e⟩ := Option.isSome_iff_exists.mp h0
        obtain ⟨kk, p, rfl⟩ := asTup_eq e
        rfl
      have hw : swappedStores [t] x X.env = pure none := by
        rcases Bool.or_eq_true_iff.mp h1 with h1 | h1
        · rcases Bool.or_eq_true_iff.mp h1 with h1 | h1
          · exact sw_noT h1 h0
          · exact sw_fold h1 h0
        · exact sw_cell (by rw [g.sc]; exact h1)
      exact PS.imp (ps_asg (sndE hy e x g h4).pe (sndT tg t g h3) (by unfold swapsWithSole; exact swaps_no h2) hw h1e) fun D σ H q => s_tset gs.blind q
  | .par is es, st, h => by
    have h' : (match asAssign st with
      | some (t, x, _) => match asTup t, asTup x with
        | some ts, some xs => xs.all notStar && !(xs.all (foldedForSure 8)) && !(xs.all (constantsAlone 8)) && chkEs L N es sc sc xs && (match (generalizing := false) is, ts with
          | [i, j], [a, b] => plainName N sc a.pos.line i a && plainName N sc a.pos.line j b && decide (i ≠ j) && decide (xs.length = 2)
          | [i, j, k], [a, b, c] => plainName N sc a.pos.line i a && plainName N sc a.pos.line j b && plainName N sc a.pos.line k c && decide (i ≠ j) && decide (i ≠ k) && decide (j ≠ k) && decide (xs.length = 3)
          | _, _ => false)
        | _, _ => false
      | none => false) = true := h
    cases e1 : asAssign st with
    | none => rw [e1] at h'; cases h'
    | some q =>
      obtain ⟨t, x, pos⟩ := q
      rw [e1] at h'
      have est := asAssign_eq e1
      subst est
      dsimp only at h'
      cases e2 : asTup t with
      | none => rw [e2] at h'; cases h'
      | some ts =>
        cases e3 : asTup x with
        | none => rw [e2, e3] at h'; cases h'
        | some xs =>
          rw [e2, e3] at h'
          obtain ⟨k1, p1, rfl⟩ := asTup_eq e2
          obtain ⟨k2, p2, rfl⟩ := asTup_eq e3
          obtain ⟨h0, h4⟩ := and2 h'
          obtain ⟨h0, h3⟩ := and2 h0
          obtain ⟨h0, h2⟩ := and2 h0
          obtain ⟨h0, h1⟩ := and2 h0
          have f1 : xs.all (foldedForSure 8) = false := by simpa using h1
          have f2 : xs.all (constantsAlone 8) = false := by simpa using h2
          have l := chkEs_len es sc sc xs h3
          match is, ts, h4 with
          | [i, j], [a, b], h4 =>
            obtain ⟨q0, q4⟩ := and2 h4
            obtain ⟨q0, q3⟩ := and2 q0
            obtain ⟨q0, q2⟩ := and2 q0
            have hij : i ≠ j := of_decide_eq_true q3
            have hl : xs.length = 2 := of_decide_eq_true q4
            obtain ⟨y, py, rfl, n1, l1, ln1⟩ := g.plain q0
            obtain ⟨z, pz, rfl, n2, l2, ln2⟩ := g.plain q2
            have hyz : y ≠ z := fun ez => hij (by
              rw [ez] at n1
              have d1 := List.getElem?_eq_some_iff.mp n1
              have d2 := List.getElem?_eq_some_iff.mp n2
              exact (List.getElem_inj g.nd).mp (d1.2.trans d2.2.symm))
            match xs, hl, h0, f1, f2, h3, l with
            | [a, b], _, h0, f1, f2, h3, l =>
              exact PS.imp (ps_par g.calm g.nd n1 n2 hij l1 l2 (sndEs hy es [a, b] g h3) (sw_two gs.kind l1 l2 ln2 hyz h0 f1 f2) (by unfold swapsWithSole; exact swaps_no rfl)) fun D σ H q => s_par2 gs.blind (evEs_len2 l.symm) q
          | [i, j, kk], [a, b, c], h4 =>
            obtain ⟨q0, q7⟩ := and2 h4
            obtain ⟨q0, q6⟩ := and2 q0
            obtain ⟨q0, q5⟩ := and2 q0
            obtain ⟨q0, q4⟩ := and2 q0
            obtain ⟨q0, q3⟩ := and2 q0
            obtain ⟨q0, q2⟩ := and2 q0
            have hij : i ≠ j := of_decide_eq_true q4
            have hik : i ≠ kk := of_decide_eq_true q5
            have hjk : j ≠ kk := of_decide_eq_true q6
            have hl : xs.length = 3 := of_decide_eq_true q7
            obtain ⟨y, py, rfl, n1, l1, ln1⟩ := g.plain q0
            obtain ⟨z, pz, rfl, n2, l2, ln2⟩ := g.plain q2
            obtain ⟨w, pw, rfl, n3, l3, ln3⟩ := g.plain q3
            have df : ∀ {u v : Nat} {y z : Str}, u ≠ v → X.N[u]? = some y → X.N[v]? = some z → y ≠ z := fun {u v y z} huv n1 n2 ez => huv (by
              rw [ez] at n1
              have d1 := List.getElem?_eq_some_iff.mp n1
              have d2 := List.getElem?_eq_some_iff.mp n2
              exact (List.getElem_inj g.nd).mp (d1.2.trans d2.2.symm))
            match xs, hl, h0, f1, f2, h3, l with
            | [a, b, c], _, h0, f1, f2, h3, l =>
              exact PS.imp (ps_par3 g.calm g.nd n1 n2 n3 hij hik hjk l1 l2 l3 (sndEs hy es [a, b, c] g h3) (sw_three gs.kind l1 l2 l3 ln2 ln3 (df hij n1 n2) (df hik n1 n3) (df hjk n2 n3) h0 f1 f2) (by unfold swapsWithSole; exact swaps_no rfl)) fun D σ H q => s_par3 gs.blind (evEs_len2 l.symm) q
          | [], _, h4 => cases h4
          | [_], _, h4 => cases h4
          | _ :: _ :: _ :: _ :: _, _, h4 => cases h4
          | [_, _], [], h4 => cases h4
          | [_, _], [_], h4 => cases h4
          | [_, _], _ :: _ :: _ :: _, h4 => cases h4
          | [_, _, _], [], h4 => cases h4
          | [_, _, _], [_], h4 => cases h4
          | [_, _, _], [_, _], h4 => cases h4
          | [_, _, _], _ :: _ :: _ :: _ :: _, h4 => cases h4
  | .unK is y ns, st, h => by
    have h' : (match asAssign st with
      | some (t, x, _) => match asTup t with
        | some ts => gnameIs sc y x && decide (L.gt y = some ns) && decide (is.length = ns.length) && ts.all notStar && chkTs N sc (is.map Tg.v) ts
        | none => false
      | none => false) = true := h
    cases e1 : asAssign st with
    | none => rw [e1] at h'; cases h'
    | some q =>
      obtain ⟨t, x, pos⟩ := q
      rw [e1] at h'
      have est := asAssign_eq e1
      subst est
      dsimp only at h'
      cases e2 : asTup t with
      | none => rw [e2] at h'; cases h'
      | some ts =>
        rw [e2] at h'
        obtain ⟨kk, tp, rfl⟩ := asTup_eq e2
        obtain ⟨h0, h4⟩ := and2 h'
        obtain ⟨h0, h3⟩ := and2 h0
        obtain ⟨h0, h2⟩ := and2 h0
        obtain ⟨h0, h1⟩ := and2 h0
        obtain ⟨p, rfl, hgl, hdb⟩ := g.gl h0
        obtain ⟨a, hm, hk⟩ := hy.tupk y ns (of_decide_eq_true h1)
        obtain ⟨q1, q2, q3⟩ := sndTs (is.map Tg.v) ts g h4
        have hpe : PE X (.Name y p) (tC (.ref a)) := pe_glob (u := .ref a) hgl (by rw [g.emg]; exact hm) rfl hdb
        refine PS.imp (ps_asg hpe (pg_tup (n := is.length) g.calm q1 (by rw [q2, List.length_map]) q3) (by unfold swapsWithSole; exact swaps_no rfl) (sw_noT rfl rfl) rfl) fun D σ H q => ?_
        have hk' : ∀ H, SqT X.K H a (ns.map V.int) := by rw [g.eK]; exact hk
        exact s_unK gs.blind (of_decide_eq_true h2) hk' q
  | .own i f, st, h => by
    have h' : (match asAssign st with
      | some (t, x, _) => locName N sc i t && (notComp x || (asComp x).isSome) && chkF L N f sc sc x
      | none => false) = true := h
    cases e1 : asAssign st with
    | none => rw [e1] at h'; cases h'
    | some q =>
      obtain ⟨t, x, pos⟩ := q
      rw [e1] at h'
      have est := asAssign_eq e1
      subst est
      obtain ⟨h0, h2⟩ := and2 h'
      obtain ⟨h0, h1⟩ := and2 h0
      exact PS.imp (asgF hy g gs f h0 h1 h2) fun D σ H q => s_own gs.blind q
  | .ownD i, st, h => by
    have h' : (match asAssign st with
      | some (t, x, _) => locName N sc i t && (match asDict x with
        | some (ks, vs) => ks.isEmpty && vs.isEmpty
        | none => false)
      | none => false) = true := h
    cases e1 : asAssign st with
    | none => rw [e1] at h'; cases h'
    | some q =>
      obtain ⟨t, x, pos⟩ := q
      rw [e1] at h'
      have est := asAssign_eq e1
      subst est
      obtain ⟨h0, h1⟩ := and2 h'
      cases e2 : asDict x with
      | none => rw [e2] at h1; cases h1
      | some q =>
        obtain ⟨ks, vs⟩ := q
        rw [e2] at h1
        obtain ⟨p2, rfl⟩ := asDict_eq e2
        obtain ⟨h1, h2⟩ := and2 h1
        cases ks with
        | cons _ _ => cases h1
        | nil =>
          cases vs with
          | cons _ _ => cases h2
          | nil =>
            obtain ⟨y, p, rfl, hN, hl, hf⟩ := g.loc h0
            exact PS.imp (ps_set g.nd hN hl pe_dnewT (swaps_no rfl) hf) fun D σ H q => s_ownD gs.blind q
  | .frz _, st, h => by cases h
  | .app i e, st, h => by
    have h' : (match asExp st with
      | some (x, _) => match asMeth x with
        | some (o, n, ap, es, ks, p) => match es with
          | [y] => ks.isEmpty && decide (n = ("append" : Str)) && (ap.endLine == p.line) && nameIs N sc i o && notStar y && chkE L N e sc sc y
          | _ => false
        | none => false
      | none => false) = true := h
    cases e1 : asExp st with
    | none => rw [e1] at h'; cases h'
    | some q =>
      obtain ⟨x, pos⟩ := q
      rw [e1] at h'
      have est := asExp_eq e1
      subst est
      dsimp only at h'
      cases e2 : asMeth x with
      | none => rw [e2] at h'; cases h'
      | some q =>
        obtain ⟨o, n, ap, es, ks, p⟩ := q
        rw [e2] at h'
        have hx := asMeth_eq e2
        match es, h', hx with
        | [], h', _ => cases h'
        | _ :: _ :: _, h', _ => cases h'
        | [y], h', hx =>
          subst hx
          obtain ⟨h0, h5⟩ := and2 h'
          obtain ⟨h0, h4⟩ := and2 h0
          obtain ⟨h0, h3⟩ := and2 h0
          obtain ⟨h0, h2⟩ := and2 h0
          obtain ⟨h0, h1⟩ := and2 h0
          have h1 := of_decide_eq_true h1
          subst h1
          cases ks with
          | cons _ _ => cases h0
          | nil =>
            obtain ⟨z, pz, rfl, hN, hv, d1, d2⟩ := g.vis h3
            have hst : starEach [y] X.env = (false, eval y X.env) :: starEach [] X.env := star_cons h4
            have he : PE X (.Call (.Attribute (.Name z pz) "append" ap) [y] [] p) (tBM X.K "list" rAppend (tVar i) (tCons (RD W Z (evE (callD U k) e)) tNil)) :=
              pe_bm PySem.F.plainAttrs_list PySem.F.slot_list_append PySem.F.type_list_append mt_append (pe_var hN hv d1 d2) (pa_cons (sndE hy e y g h5).pe pa_nil hst) attr_name (by rw [hst]; rfl) h2 hst rfl
            exact PS.imp (ps_expr he (swaps_no rfl)) fun D σ H q => s_app X.K gs.blind q
  | .appPop _ _ _, st, h => by cases h
  | .setI a i e, st, h => by
    have h' : (match asAssign st with
      | some (t, x, _) => match asSub t with
        | some (p, q) => notSlice q && notComp x && chkE L N e sc sc x && chkE L N a sc sc p && chkE L N i sc sc q
        | none => false
      | none => false) = true := h
    cases e1 : asAssign st with
    | none => rw [e1] at h'; cases h'
    | some q =>
      obtain ⟨t, x, pos⟩ := q
      rw [e1] at h'
      have est := asAssign_eq e1
      subst est
      dsimp only at h'
      cases e2 : asSub t with
      | none => rw [e2] at h'; cases h'
      | some q =>
        obtain ⟨p, q⟩ := q
        rw [e2] at h'
        obtain ⟨sp, rfl⟩ := asSub_eq e2
        obtain ⟨h0, h4⟩ := and2 h'
        obtain ⟨h0, h3⟩ := and2 h0
        obtain ⟨h0, h2⟩ := and2 h0
        obtain ⟨h0, h1⟩ := and2 h0
        exact PS.imp (ps_item (sndE hy a p g h3).pe (sndE hy i q g h4).pe (sndE hy e x g h2).pe h0 h1) fun D σ H q => s_setI gs.blind q
  | .oset y i e, st, h => by
    have h' : (match asAssign st with
      | some (t, x, _) => match asSub t with
        | some (p, q) => notSlice q && notComp x && chkE L N e sc sc x && nameIs N sc y p && chkE L N i sc sc q
        | none => false
      | none => false) = true := h
    cases e1 : asAssign st with
    | none => rw [e1] at h'; cases h'
    | some q =>
      obtain ⟨t, x, pos⟩ := q
      rw [e1] at h'
      have est := asAssign_eq e1
      subst est
      dsimp only at h'
      cases e2 : asSub t with
      | none => rw [e2] at h'; cases h'
      | some q =>
        obtain ⟨p, q⟩ := q
        rw [e2] at h'
        obtain ⟨sp, rfl⟩ := asSub_eq e2
        obtain ⟨h0, h4⟩ := and2 h'
        obtain ⟨h0, h3⟩ := and2 h0
        obtain ⟨h0, h2⟩ := and2 h0
        obtain ⟨hs, h1⟩ := and2 h0
        obtain ⟨z, pz, rfl, hN, hv, d1, d2⟩ := g.vis h3
        exact PS.imp (ps_item (pe_var hN hv d1 d2) (sndE hy i q g h4).pe (sndE hy e x g h2).pe hs h1) fun D σ H q => s_oset gs.blind q
  | .dset y i e, st, h => by
    have h' : (match asAssign st with
      | some (t, x, _) => match asSub t with
        | some (p, q) => notComp x && chkE L N e sc sc x && nameIs N sc y p && chkE L N i sc sc q
        | none => false
      | none => false) = true := h
    cases e1 : asAssign st with
    | none => rw [e1] at h'; cases h'
    | some q =>
      obtain ⟨t, x, pos⟩ := q
      rw [e1] at h'
      have est := asAssign_eq e1
      subst est
      dsimp only at h'
      cases e2 : asSub t with
      | none => rw [e2] at h'; cases h'
      | some q =>
        obtain ⟨p, q⟩ := q
        rw [e2] at h'
        obtain ⟨sp, rfl⟩ := asSub_eq e2
        obtain ⟨h0, h4⟩ := and2 h'
        obtain ⟨h0, h3⟩ := and2 h0
        obtain ⟨hs, h2⟩ := and2 h0
        obtain ⟨z, pz, rfl, hN, hv, d1, d2⟩ := g.vis h3
        exact PS.imp (ps_dput (Nat.lt_of_le_of_lt (by omega) g.units) (pe_var hN hv d1 d2) (sndE hy i q g h4).pe (sndE hy e x g h2).pe (swaps_no hs)) fun D σ H q => s_dset gs.blind q
  | .aug i o e, st, h => by
    have h' : (match asAug st with
      | some (t, o', x, _) => decide (o' = opB o) && locName N sc i t && (decide (o = .add) || decide (o = .sub)) && chkE L N e sc sc x
      | none => false) = true := h
    cases e1 : asAug st with
    | none => rw [e1] at h'; cases h'
    | some q =>
      obtain ⟨t, o', x, pos⟩ := q
      rw [e1] at h'
      have est := asAug_eq e1
      subst est
      obtain ⟨h0, h3⟩ := and2 h'
      obtain ⟨h0, h2⟩ := and2 h0
      obtain ⟨h0, h1⟩ := and2 h0
      have h0 := of_decide_eq_true h0
      subst h0
      obtain ⟨y, p, rfl, hN, hl, hf⟩ := g.loc h1
      cases o with
      | add => exact PS.imp (ps_aug g.nd hN hl (sndE hy e x g h3).pe ip_add hf) fun D σ H q => s_aug gs.blind (fun x y z h => bop_add h) q
      | sub => exact PS.imp (ps_aug g.nd hN hl (sndE hy e x g h3).pe ip_sub hf) fun D σ H q => s_aug gs.blind (fun x y z h => bop_sub h) q
      | _ => cases h2
  | .ret e, st, h => by
    have h' : (match asRet st with
      | some (x, _) => match x with
        | some x => chkE L N e sc sc x
        | none => false
      | none => false) = true := h
    cases e1 : asRet st with
    | none => rw [e1] at h'; cases h'
    | some q =>
      obtain ⟨x, pos⟩ := q
      rw [e1] at h'
      have est := asRet_eq e1
      subst est
      cases x with
      | none => cases h'
      | some x => exact PS.imp (ps_ret (sndE hy e x g h').pe) fun D σ H q => s_ret gs.blind q
  | .retN, st, h => by
    have h' : (match asRet st with
      | some (x, _) => x.isNone
      | none => false) = true := h
    cases e1 : asRet st with
    | none => rw [e1] at h'; cases h'
    | some q =>
      obtain ⟨x, pos⟩ := q
      rw [e1] at h'
      have est := asRet_eq e1
      subst est
      cases x with
      | none => exact PS.imp ps_retN fun D σ H q => s_retN q
      | some x => cases h'
  | .if_ c a b, st, h => by
    have h' : (match asIfS st with
      | some (x, p, q, _) => notIf x && chkE L N c sc sc x && chkSs L N a sc p && chkSs L N b sc q
      | none => false) = true := h
    cases e1 : asIfS st with
    | none => rw [e1] at h'; cases h'
    | some q =>
      obtain ⟨x, p, q, pos⟩ := q
      rw [e1] at h'
      have est := asIfS_eq e1
      subst est
      obtain ⟨h0, h3⟩ := and2 h'
      obtain ⟨h0, h2⟩ := and2 h0
      obtain ⟨h0, h1⟩ := and2 h0
      exact PS.imp (ps_if ((sndE hy c x g h1).pt h0) (sndSs hy g gs a p h2) (sndSs hy g gs b q h3)) fun D σ H q => s_if gs.blind q
  | .for_ tg it b, st, h => by
    have h' : (match asFor st with
      | some (t, x, p, o, _) => o.isEmpty && notSet x && chkIt L N it sc sc x && chkT N sc tg t && chkSs L N b sc p
      | none => false) = true := h
    cases e1 : asFor st with
    | none => rw [e1] at h'; cases h'
    | some q =>
      obtain ⟨t, x, p, o, pos⟩ := q
      rw [e1] at h'
      have est := asFor_eq e1
      subst est
      obtain ⟨h0, h4⟩ := and2 h'
      obtain ⟨h0, h3⟩ := and2 h0
      obtain ⟨h0, h2⟩ := and2 h0
      obtain ⟨h0, h1⟩ := and2 h0
      cases o with
      | cons _ _ => cases h0
      | nil => exact PS.imp (ps_for gs.own g.calm (sndIt hy it t x g h2) (sndT tg t g h3) (sndSs hy g gs b p h4) (fun x => fold_no h1 x)) fun D σ H q => s_for gs.blind q
  | .while_ c b, st, h => by
    have h' : (match asWhile st with
      | some (x, p, o, _) => o.isEmpty && notIf x && chkE L N c sc sc x && chkSs L N b sc p
      | none => false) = true := h
    cases e1 : asWhile st with
    | none => rw [e1] at h'; cases h'
    | some q =>
      obtain ⟨x, p, o, pos⟩ := q
      rw [e1] at h'
      have est := asWhile_eq e1
      subst est
      obtain ⟨h0, h3⟩ := and2 h'
      obtain ⟨h0, h2⟩ := and2 h0
      obtain ⟨h0, h1⟩ := and2 h0
      cases o with
      | cons _ _ => cases h0
      | nil => exact PS.imp (ps_while gs.own ((sndE hy c x g h2).pt h1) (sndSs hy g gs b p h3)) fun D σ H q => s_while gs.blind q
  | .raise _ _, st, h => by cases h
  | .ex e, st, h => by
    have h' : (match asExp st with
      | some (x, _) => notComp x && chkE L N e sc sc x
      | none => false) = true := h
    cases e1 : asExp st with
    | none => rw [e1] at h'; cases h'
    | some q =>
      obtain ⟨x, pos⟩ := q
      rw [e1] at h'
      have est := asExp_eq e1
      subst est
      obtain ⟨h0, h1⟩ := and2 h'
      exact PS.imp (ps_expr (sndE hy e x g h1).pe (swaps_no h0)) fun D σ H q => s_ex gs.blind q
  | .pass, st, h => by
    have h' : isPass st = true := h
    cases st with
    | Pass p => exact PS.imp ps_pass fun D σ H q => s_pass q
    | Expr x p =>
      cases x with
      | Constant c kk p2 =>
        cases c with
        | str x => exact PS.imp ps_doc fun D σ H q => s_pass q
        | _ => cases h'
      | _ => cases h'
    | _ => cases h'
  | .nev, st, h => PS.imp ps_never fun D σ H q => by
    obtain ⟨F0, μ0, H0, F, μ, env, h, A, a⟩ := q
    exact a
theorem sndSs (hy : Hyp U W L k) (g : Gd W k N sc sc X Z) (gs : Gs X Z) : ∀ (ss : List S) (sts : List Stmt), chkSs L N ss sc sts = true → PSs X sts (RS W Z (evSs (callD U k) ss))
  | [], sts, h => by
    cases sts with
    | nil => exact PSs.imp pss_nil fun D σ H q => s_pass q
    | cons _ _ => cases h
  | s :: ss, sts, h => by
    by_cases hf : ∃ i, s = .frz i
    · obtain ⟨i, rfl⟩ := hf
      have h' : chkSs L N ss sc sts = true := h
      exact PSs.imp (sndSs hy g gs ss sts h') fun D σ H q => s_frz gs.blind q
    · have h' : (match (generalizing := false) sts with | st :: sts => chkS L N s sc st && chkSs L N ss sc sts | [] => false) = true := by
        cases s with
        | frz i => exact absurd ⟨i, rfl⟩ hf
        | _ => exact h
      cases sts with
      | nil => cases h'
      | cons st sts =>
        obtain ⟨h1, h2⟩ := and2 h'
        exact PSs.imp (pss_cons (sndS hy g gs s st h1) (sndSs hy g gs ss sts h2)) fun D σ H q => s_seq q gs.blind
end
/-! ### defs -/
theorem at_start {F : Addr → Prop} {μ : List Addr} {H : Hp} {h : Hs} {args : List Val} {xs : List L2.V} {n : Nat} (r : RSt W F μ H h) (q : RVs W F μ H args xs) (hn : n = N.length) : At W F μ H F μ H h (startE n args) (start N xs) := by
  have l := RVs.length q
  have key : ∀ (i : Nat) s, (startE n args)[i]? = some (some s) → ∃ v, s = .v v ∧ args[i]? = some v := fun i s e => by
    unfold startE at e
    by_cases hi : i < args.length
    · rw [List.getElem?_append_left (by rw [List.length_map]; exact hi), List.getElem?_map] at e
      obtain ⟨v, e1, e2⟩ := Option.map_eq_some_iff.mp e
      exact ⟨v, (Option.some.inj e2).symm, e1⟩
    · rw [List.getElem?_append_right (by rw [List.length_map]; omega)] at e
      obtain ⟨_, e2⟩ := List.getElem?_eq_some_iff.mp e
      rw [List.getElem_replicate] at e2
      cases e2
  have no : ∀ i a, ¬ OwnAt (startE n args) (start N xs) i a := fun i a ⟨s, e1, e2, _⟩ => by
    obtain ⟨v, rfl, _⟩ := key i s e1
    cases e2
  refine ⟨r, ⟨?_, fun i s e => ?_, fun i j a h1 _ => absurd h1 (no i a)⟩, Stp.refl, fun a ⟨i, o⟩ => absurd o (no i a), r.lf⟩
  · unfold startE L2.start
    rw [List.length_append, List.length_append, List.length_map, List.length_map, List.length_replicate, List.length_replicate, l, hn]
  · obtain ⟨v, rfl, e1⟩ := key i s e
    obtain ⟨x, e2, rx⟩ := RVs.get q e1
    refine ⟨x, ?_, rx⟩
    unfold L2.start
    rw [List.getElem?_append_left (by rw [List.length_map]; exact (List.getElem?_eq_some_iff.mp e2).1), List.getElem?_map, e2]
    rfl
/-- a def of the text and its row -/
structure FRow (U : Nat → Option FDef) (W : Wd) (L : Lk) (f : Nat) (nm : Str) (fa : Addr) (fd : FuncData) (ps : List Str) : Prop where
  mg : W.mg nm = some (.ref fa)
  kp : PySem.W.keepIn W.K (.ref fa) = true
  dfl : ∀ dl ∈ L.dfl f, ∃ ds, Binds W.K fd ps ds ∧ Vals (dl.map Lit.V) ds
  ok : ∃ (name qual : Str) (params : Arguments) (body : List Stmt) (scope : Scope) (dvs : List L2.V) (kws : List (Str × L2.V)) (N : List Str) (d : FDef), FunD W.K name qual params body scope dvs kws fa fd ∧ FnScope N ps scope ∧
    U f = some d ∧ d.ps = ps.length ∧ d.n = N.length ∧ chkSs L N d.body scope body = true
theorem fok_zero {P : Program} {w : World} {K : PySem.W.Frag} {mg : Str → Option Value} {base : Heap} {f : Addr} {fd : FuncData} {ps : List Str} {sp : Sp} {n : Nat} (h : ∀ vs H Q E, ¬ sp vs H Q E) : Fok P w K mg base n f fd ps sp :=
  ⟨fun vs H Q E q => absurd q (h vs H Q E), fun A out s H args us vs Q E r e b v q => absurd q (h vs H Q E)⟩
theorem frow_ok {f : Nat} {nm : Str} {fa : Addr} {fd : FuncData} {ps : List Str} (hy : Hyp U W L k) (r : FRow U W L f nm fa fd ps) : Fok W.P W.w W.K W.mg W.base (k + 1) fa fd ps (spD W U (k + 1) f) := by
  obtain ⟨name, qual, params, body, scope, dvs, kws, N, d, D, S, hU, hp, hn, hc⟩ := r.ok
  have unf : ∀ (args : List Val) (h : Hs), callD U (k + 1) f args h = if args.length = d.ps then retOf (evSs (callD U k) d.body (startE d.n args) h) else .bad := fun args h => by
    show (match U f with
      | some d => if args.length = d.ps then retOf (evSs (callD U k) d.body (startE d.n args) h) else .bad
      | none => .bad) = _
    rw [hU]
  refine Fok.of D S (fun vs H Q E q => ?_) fun cd A out s H vs Q E hr q => ?_
  · obtain ⟨F, μ, h, args, r, rv, a⟩ := q
    rw [unf] at a
    by_cases hl : args.length = d.ps
    · rw [← RVs.length rv, hl, hp]
    · rw [if_neg hl] at a
      exact a.elim
  · obtain ⟨F, μ, h, args, r, rv, a⟩ := q
    rw [unf] at a
    by_cases hl : args.length = d.ps
    · rw [if_pos hl] at a
      have g : Gd W k N scope scope (cxOf (L2.CX W.P W.w) W.P W.w W.K W.mg W.base N qual scope fa cd A out s H E) (fun c d _ H => E c d H) := {
        eP := rfl
        ew := rfl
        eK := rfl
        emg := rfl
        ebase := rfl
        eN := rfl
        nd := S.nd
        sc := rfl
        calm := rfl
        st := fun x hx => by
          refine ⟨?_, .inl rfl⟩
          unfold locB at hx
          show scope.names.lookup x = some .local ∨ scope.names.lookup x = some .cell
          cases e : scope.names.lookup x with
          | none => rw [e] at hx; cases hx
          | some kd =>
            rw [e] at hx
            cases kd with
            | «local» => exact .inl rfl
            | cell => exact .inr rfl
            | free => cases hx
            | globalExplicit => cases hx
            | globalImplicit => cases hx
        rm := hr
        tk := takes_of rfl rfl rfl rfl }
      refine ⟨_, sndSs hy g ⟨passes_of rfl, fun _ _ _ _ _ z => z, S.kind⟩ d.body body hc, F, μ, H, F, μ, startE d.n args, h, at_start r rv hn, ?_⟩
      cases he : evSs (callD U k) d.body (startE d.n args) h with
      | ok fl e2 h2 =>
        rw [he] at a
        cases fl with
        | nxt => exact fun F' μ' H' σ' A _ => a F' μ' H' _ A.st A.stp rfl
        | ret v => exact fun F' μ' H' x r s rv => a F' μ' H' x r s rv
      | exc c v h2 =>
        rw [he] at a
        exact fun F' μ' H' d x r s n f m e rv => a F' μ' H' d x r s n f m e rv
      | bad =>
        rw [he] at a
        exact a.elim
    · rw [if_neg hl] at a
      exact a.elim
/-- all of them, at every depth -/
theorem hyp_all (hf : ∀ f nm, L.fn f = some nm → ∃ fa fd ps, FRow U W L f nm fa fd ps) (hg : ∀ x l, L.gl x = some l → ∃ u, W.mg x = some u ∧ RelV l.V u) (hb : ∀ x ∈ biNames, W.mg x = none) (ht : ∀ x ns, L.gt x = some ns → ∃ a, W.mg x = some (.ref a) ∧ ∀ H, SqT W.K H a (ns.map V.int)) : ∀ k, Hyp U W L k
  | 0 => ⟨fun f nm h => by
      obtain ⟨fa, fd, ps, r⟩ := hf f nm h
      exact ⟨fa, fd, ps, r.mg, r.kp, r.dfl, fok_zero fun vs H Q E ⟨F, μ, h, args, _, _, a⟩ => a⟩, hg, hb, ht⟩
  | k + 1 => ⟨fun f nm h => by
      obtain ⟨fa, fd, ps, r⟩ := hf f nm h
      exact ⟨fa, fd, ps, r.mg, r.kp, r.dfl, frow_ok (hyp_all hf hg hb ht k) r⟩, hg, hb, ht⟩
end
end Pyi
set_option Elab.async false
set_option linter.all false
set_option maxRecDepth 100000
set_option maxHeartbeats 2000000
/-! The law's end, for Fok. -/
namespace Pyi
open PySem PySem.Spec PyProof.Rows L2

/-- the law's def is called on its script, at the heap behind the top (the library's law_call, for a promise that knows that nothing is being shown) -/
theorem law_run {P : Program} {w : World} {K : PySem.W.Frag} {mg nb : Str → Option Value} {k : Nat} {fa sc : Addr} {fd : FuncData} {x : Str} {sp : Sp} {s₁ : Shared} {us : List Value} {ns : List Int}
    (kin : K.In s₁.heap) (gns : s₁.heap.Ns mainGlobals mg) (bns : s₁.heap.Ns builtinsNs nb) (bbs : ∀ x : Str, x ≠ "__name__" → nb x = bootBuiltins x) (lim : s₁.heap.NoLimit) (gen : s₁.gens = #[])
    (osc : s₁.heap.get? sc = some { cls := .type "list", data := .seq us.toArray }) (iar : IntsAre us ns) (small : ns.length ≤ sizeLine) (room : Rm k callerA)
    (PF : ∀ base : Heap, K.In base → base.Ns mainGlobals mg → Fok P w K mg base k fa fd [x] sp) (bnd : ∀ (s : Shared) (u : Value), BindsTo s fd ⟨[u], []⟩ [(x, u)])
    (ask : ∀ H : Hp, Only H → SqL K H sc (ns.map V.int) → sp [.ref sc] H (fun v _ => v = .bl true) fun _ _ _ => False) :
    codeAny (model P w) callerA (.call (.ref fa) ⟨[.ref sc], []⟩) (fun r t => r = .ok (.ret (.bool true)) ∧ OldK s₁.heap t.heap ∧ t.os = s₁.os ∧ AllBare t.gens) s₁ := by
  have rvs := vals_ints iar
  have len := iar.length
  have main : ∀ H : Hp, Only H → SqL K H sc (ns.map V.int) → HOk P w H s₁.heap → (∀ b, H b ≠ none → b = sc) → (H sc ≠ none → K.lookup sc = none) →
      codeAny (model P w) callerA (.call (.ref fa) ⟨[.ref sc], []⟩) (fun r t => r = .ok (.ret (.bool true)) ∧ OldK s₁.heap t.heap ∧ t.os = s₁.os ∧ AllBare t.gens) s₁ := by
    intro H only sq hok solo wr
    have hid : ∀ {b : Addr} {o : Obj}, s₁.heap.get? b = some o → H b = none → (hidT s₁.heap H).get? b = some o := fun e n => hidT_get e n
    have one : ∀ {b : Addr}, H b ≠ none → b = sc := fun {b} z => solo b z
    have nd : ∀ {b : Addr} {o : Obj} {es : Array DictEntry} {ep : Nat}, s₁.heap.get? b = some o → o.data = .dict es ep → H b = none := by
      intro b o es ep e d
      cases q : H b with
      | none => rfl
      | some u =>
        obtain rfl : b = sc := one (by rw [q]; exact fun z => by cases z)
        rw [osc] at e
        cases e
        have d' : Data.seq us.toArray _ = Data.dict es ep := d
        cases d'
    have nsb : ∀ {b : Addr} {m : Str → Option Value}, s₁.heap.Ns b m → (hidT s₁.heap H).Ns b m := by
      rintro b m ⟨o, es, ep, e, d, r⟩
      exact ⟨o, es, ep, hid e (nd e d), d, r⟩
    have kb : K.In (hidT s₁.heap H) := fun b o e => hid (kin b o e) (by
      cases q : H b with
      | none => rfl
      | some u =>
        obtain rfl : b = sc := one (by rw [q]; exact fun z => by cases z)
        rw [wr (by rw [q]; exact fun z => by cases z)] at e
        cases e)
    obtain ⟨mc, l1, l2⟩ := lim
    have md : Mod K mg (hidT s₁.heap H) := ⟨kb, nsb gns, ⟨nb, nsb bns, bbs⟩, ⟨mc, nsb l1, l2⟩⟩
    have env0 : Env0 P w K mg (hidT s₁.heap H) callerA [] s₁ H := ⟨rfl, md, fun b o e => of_hidT e, Nat.le_of_eq (hidT_size _ _), trivial, fun b hb => absurd (show b ∈ ([] : List Addr) from hb) (by simp), hok, .of_eq gen⟩
    refine codeAny_mono ((PF _ kb (nsb gns)).run callerA [] s₁ H ⟨[.ref sc], []⟩ [.ref sc] [.ref sc] _ _ room env0 (bnd s₁ (.ref sc)) (.cons rfl .nil) (ask H only sq)) ?_
    intro r t ht
    match r, ht with
    | .error e, ht =>
      obtain ⟨_, _, _, _, _, _, _, _, _, _, _, _, z⟩ := ht
      exact z.elim
    | .ok .next, ht => exact False.elim ht
    | .ok .brk, ht => exact False.elim ht
    | .ok .cont, ht => exact False.elim ht
    | .ok (.ret u), ht =>
      obtain ⟨v, H2, os, bare, un, hok2, ru, q⟩ := ht
      obtain rfl : v = .bl true := q
      obtain rfl : u = Value.bool true := ru
      refine ⟨rfl, OldK.of_keep ?_, os, bare⟩
      intro b o e
      cases q : H b with
      | none => exact un.keep b o e q (by intro z; exact absurd (show b ∈ ([] : List Addr) from z) (by simp)) (by simp)
      | some u =>
        rcases only b with z | ⟨ob, xs, z⟩
        · rw [q] at z
          cases z
        · have z2 := un.frzs b ob _ z
          obtain ⟨e1, _⟩ := hok b _ z
          obtain ⟨e2, _⟩ := hok2 b _ z2
          rw [e] at e1
          cases e1
          exact e2
  cases lk : K.lookup sc with
  | some o =>
    have e := kin sc o lk
    rw [osc] at e
    cases e
    exact main (fun _ => none) (fun _ => .inl rfl) (.inr ⟨_, us.toArray, _, lk, rfl, rfl, rfl, by rw [List.size_toArray, len]; exact small, by simpa using rvs⟩) (fun b u z => by cases (show (none : Option HO) = some u from z)) (fun b z => absurd rfl z) fun z => absurd rfl z
  | none =>
    refine main (fun b => if b = sc then some (.frz { cls := .type "list", data := .seq us.toArray } (.lst (ns.map V.int))) else none) (fun b => ?_) (.inl (.inr ⟨{ cls := .type "list", data := .seq us.toArray }, if_pos rfl⟩)) (fun b u z => ?_) (fun b z => ?_) fun _ => lk
    · by_cases h : b = sc
      · exact .inr ⟨_, _, if_pos h⟩
      · exact .inl (if_neg h)
    · by_cases h : b = sc
      · have z' := (if_pos h).symm.trans z
        cases z'
        subst h
        exact ⟨osc, by rw [List.length_map]; exact small, us, _, rvs, osc⟩
      · have z' := (if_neg h).symm.trans z
        cases z'
    · by_cases h : b = sc
      · exact h
      · exact absurd (if_neg h) z
/-- a law's row by the interpreter's own: its def answers True on every script -/
theorem walk_run {l : PySem.W.OpenLaw} {n : Nat} {q : Program} {loose : List Str} {XP : (Str → Option Value) → Heap → Prop} {YP : World → Heap → Prop} {d : DefRec} {U : Nat → Option FDef} {f k : Nat} {x : Str}
    (hn : l.most = some n) (hn2 : n ≤ sizeLine) (hdf : d.params.defaults = []) (hr : Room k callerA)
    (F : ∀ (w : World) (mg : Str → Option Value) (fa : Addr) (h : Heap), YP w h → h.Ns mainGlobals mg → mg d.name = some (.ref fa) →
      ∃ (K : PySem.W.Frag) (fd : FuncData) (ca : Nat → Addr), K.In h ∧ (∀ (s : Shared) (u : Value), BindsTo s fd ⟨[u], []⟩ [(x, u)]) ∧
        ∀ base : Heap, K.In base → base.Ns mainGlobals mg → Fok l.prog w K mg base k fa fd [x] (spD ⟨l.prog, w, K, mg, base, ca⟩ U k f))
    (law : ∀ ns : List Int, ns.length ≤ n → ∃ h', callD U k f [.scr ns] [] = .ok (.bl true) h') :
    PySem.W.WalkO q loose XP YP l.row.toRowW d [] (fun f vs => PySem.call f vs) := by
  refine Att.attach_call hn hdf fun w s₀ s₁ mg nb fa o pm cd doc sc us ns G Y ho hd hcd hmg hobj hints hlen hg => ?_
  obtain ⟨K, fd, ca, KX, hb, hF⟩ := F w mg fa _ Y G.T.g hmg
  -- a promise that names no base
  let sp : Sp := fun vs H Q E => ∀ base : Heap, K.In base → base.Ns mainGlobals mg → spD ⟨l.prog, w, K, mg, base, ca⟩ U k f vs H Q E
  have PF : ∀ base : Heap, K.In base → base.Ns mainGlobals mg → Fok l.prog w K mg base k fa fd [x] sp := fun base h1 h2 =>
    ⟨fun vs H Q E q => (hF base h1 h2).len vs H Q E (q base h1 h2), fun A out s H args us vs Q E r e b v q => (hF base h1 h2).run A out s H args us vs Q E r e b v (q base h1 h2)⟩
  refine law_run KX G.T.g G.T.b G.T.builtins G.T.nolimit hg hobj hints (Nat.le_trans hlen hn2) (rm_caller hr) PF hb fun H only sq base h1 h2 => ?_
  obtain ⟨h', e⟩ := law ns hlen
  rcases sq with rd | wr
  · refine ⟨fun a => a = sc ∧ H a ≠ none, [], [], [.scr ns], ⟨rfl, List.Pairwise.nil, fun n o a z => by simp at z, fun a z => by simp at z, fun a z => by simp at z, fun a z => z.2⟩, ⟨_, _, rfl, ⟨sc, rfl, .inl ⟨⟨rfl, ?_⟩, rd⟩⟩, rfl⟩, ?_⟩
    · rcases rd with z | ⟨o, z⟩ <;> rw [z] <;> exact fun y => by cases y
    · rw [e]
      intro F' μ' H' y _ _ ry
      exact ry
  · refine ⟨fun _ => False, [], [], [.scr ns], ⟨rfl, List.Pairwise.nil, fun n o a z => by simp at z, fun a z => by simp at z, fun a z => by simp at z, fun a z => z.elim⟩, ⟨_, _, rfl, ⟨sc, rfl, .inr fun H' => .inr wr⟩, rfl⟩, ?_⟩
    rw [e]
    intro F' μ' H' y _ _ ry
    exact ry
/-! ### the head: the library's facts of defs, and a word of one's own -/
def obsE (n : Nat) (fa : List He.Fa) (fn : List He.DefD) (ex : PySem.W.Frag → Bool) (g : Addr → Option Obj) : He.AlD × Bool := (He.obsD fa fn (He.frG g (He.asD g n)), ex (He.frG g (He.asD g n)))
def hookE (n : Nat) (fa : List He.Fa) (fn : List He.DefD) (ex : PySem.W.Frag → Bool) : PySem.W.Hook where
  α := He.AlD × Bool
  obs := fun s => obsE n fa fn ex s.heap.get?
  val := fun _ => (He.valD fn, true)
  says := fun _ h => ∃ K : PySem.W.Frag, K.In h ∧ He.SaysD fa fn K ∧ ex K = true
  of := fun _ _ e => ⟨_, He.frG_in, congrArg Prod.fst e, congrArg Prod.snd e⟩
  keeps := fun _ _ _ ⟨K, hK, c⟩ k => ⟨K, PySem.W.Frag.In.keeps hK k, c⟩
theorem obsE_eq {n : Nat} {fa : List He.Fa} {fn : List He.DefD} {ex : PySem.W.Frag → Bool} {g : Addr → Option Obj} {s : Shared} (h : ∀ a, g a = s.heap.get? a) : obsE n fa fn ex g = (hookE n fa fn ex).obs s := by
  have e : g = s.heap.get? := funext h
  rw [e]
  rfl
/-! ### a def's scope -/
def scopeB (N ps : List Str) (sc : Scope) : Bool := decide (sc.kind = .function) && !sc.isCoroutine && !sc.isGenerator && decide N.Nodup && decide (N.take ps.length = ps) && ps.all (fun x => locB sc x) && sc.names.all fun y => decide (y.2 ≠ .free)
theorem scopeB_ok {N ps : List Str} {sc : Scope} (h : scopeB N ps sc = true) : FnScope N ps sc := by
  unfold scopeB at h
  obtain ⟨h, h7⟩ := and2 h
  obtain ⟨h, h6⟩ := and2 h
  obtain ⟨h, h5⟩ := and2 h
  obtain ⟨h, h4⟩ := and2 h
  obtain ⟨h, h3⟩ := and2 h
  obtain ⟨h, h2⟩ := and2 h
  refine ⟨of_decide_eq_true h, by simpa using h2, by simpa using h3, of_decide_eq_true h4, of_decide_eq_true h5, fun x hx => ?_, fun y hy => of_decide_eq_true (List.all_eq_true.mp h7 y hy)⟩
  have z : locB sc x = true := List.all_eq_true.mp h6 x hx
  unfold locB at z
  cases e : sc.names.lookup x with
  | none => rw [e] at z; cases z
  | some kd =>
    rw [e] at z
    cases kd with
    | «local» => exact .inl rfl
    | cell => exact .inr rfl
    | free => cases z
    | globalExplicit => cases z
    | globalImplicit => cases z
theorem lookup_mem {α β : Type} [BEq α] [LawfulBEq α] : ∀ {l : List (α × β)} {a : α} {b : β}, l.lookup a = some b → (a, b) ∈ l
  | (c, d) :: l, a, b, h => by
    rw [List.lookup_cons] at h
    by_cases e : (a == c) = true
    · rw [e] at h
      cases h
      rw [eq_of_beq e]
      exact List.mem_cons_self
    · have e' : (a == c) = false := by simpa using e
      rw [e'] at h
      exact List.mem_cons_of_mem _ (lookup_mem h)
end Pyi
set_option Elab.async false
set_option linter.all false
set_option maxRecDepth 100000
set_option maxHeartbeats 1000000
/-! The interpreter run step by step: equations for simp; what a loop's turn does keeps a name of its own. -/
namespace Pyi
open PySem
section
variable {cf : Nat → List Val → Hs → Out Val} {env : Env} {h : Hs}
/-! ### turns -/
def turnF (cf : Nat → List Val → Hs → Out Val) (tg : Tg) (b : List S) : Val → Env → Hs → OutS := fun x env h => (ofOpt (bindT tg x env) h).toS fun env' h => evSs cf b env' h
def condW (cf : Nat → List Val → Hs → Out Val) (c : E) : Env → Hs → Out Bool := fun env h => (evE cf c env h).bind fun x h => ofOpt (asB x) h
def turnW (cf : Nat → List Val → Hs → Out Val) (b : List S) : Env → Hs → OutS := fun env h => evSs cf b env h
def turnC (cf : Nat → List Val → Hs → Out Val) (env : Env) (tg : Tg) (cs : List E) (e : E) : Val → Hs → Out (Option Val) := fun x h =>
  (ofOpt (bindT tg x (wipeE env tg.slots)) h).bind fun env' h => (evC cf cs env' h).bind fun b h => keepIf b (evE cf e env' h) h
def turnD (cf : Nat → List Val → Hs → Out Val) (env : Env) (tg : Tg) (k : E) : Val → Hs → Out (Option Val) := fun x h =>
  (ofOpt (bindT tg x (wipeE env tg.slots)) h).bind fun env' h => (evE cf k env' h).bind fun y h => if keyT y then .ok (some y) h else .bad
theorem turnF_eq {tg : Tg} {b : List S} {x : Val} : turnF cf tg b x env h = (ofOpt (bindT tg x env) h).toS fun env' h => evSs cf b env' h := rfl
theorem condW_eq {c : E} : condW cf c env h = (evE cf c env h).bind fun x h => ofOpt (asB x) h := rfl
theorem turnW_eq {b : List S} : turnW cf b env h = evSs cf b env h := rfl
theorem turnC_eq {tg : Tg} {cs : List E} {e : E} {x : Val} : turnC cf env tg cs e x h = (ofOpt (bindT tg x (wipeE env tg.slots)) h).bind fun env' h => (evC cf cs env' h).bind fun b h => keepIf b (evE cf e env' h) h := rfl
theorem turnD_eq {tg : Tg} {k : E} {x : Val} : turnD cf env tg k x h = (ofOpt (bindT tg x (wipeE env tg.slots)) h).bind fun env' h => (evE cf k env' h).bind fun y h => if keyT y then .ok (some y) h else .bad := rfl
/-! ### expressions -/
@[simp] theorem ofOpt_some {α : Type} {a : α} : ofOpt (some a) h = .ok a h := rfl
@[simp] theorem ofOpt_none {α : Type} : ofOpt (none : Option α) h = .bad := rfl
@[simp] theorem e_lit {l : Lit} : evE cf (.lit l) env h = .ok l.val h := rfl
@[simp] theorem e_glb {x : Str} {l : Lit} : evE cf (.glb x l) env h = .ok l.val h := rfl
@[simp] theorem e_var {i : Nat} : evE cf (.var i) env h = ofOpt (varV env i) h := rfl
@[simp] theorem e_bin {o : BOp} {a b : E} : evE cf (.bin o a b) env h = (evE cf a env h).bind fun x h => (evE cf b env h).bind fun y h => ofOpt (binop o x y) h := rfl
@[simp] theorem e_neg {a : E} : evE cf (.neg a) env h = (evE cf a env h).bind fun x h => ofOpt ((asI x).map fun i => .int (-i)) h := rfl
@[simp] theorem e_not {a : E} : evE cf (.not_ a) env h = (evE cf a env h).bind fun x h => (ofOpt (asB x) h).bind fun b h => .ok (.bl (!b)) h := rfl
@[simp] theorem e_and {a b : E} : evE cf (.and_ a b) env h = (evE cf a env h).bind fun x h => (ofOpt (asB x) h).bind fun c h =>
  if c then (evE cf b env h).bind fun y h => (ofOpt (asB y) h).bind fun d h => .ok (.bl d) h else .ok (.bl false) h := rfl
@[simp] theorem e_or {a b : E} : evE cf (.or_ a b) env h = (evE cf a env h).bind fun x h => (ofOpt (asB x) h).bind fun c h =>
  if c then .ok (.bl true) h else (evE cf b env h).bind fun y h => (ofOpt (asB y) h).bind fun d h => .ok (.bl d) h := rfl
@[simp] theorem e_ite {c a b : E} : evE cf (.ite c a b) env h = (evE cf c env h).bind fun x h => (ofOpt (asB x) h).bind fun c h => if c then evE cf a env h else evE cf b env h := rfl
@[simp] theorem e_cmp {o : COp} {a b : E} : evE cf (.cmp o a b) env h = (evE cf a env h).bind fun x h => (evE cf b env h).bind fun y h => ofOpt ((cmpop o x y).map .bl) h := rfl
@[simp] theorem e_chn {o p : COp} {a b c : E} : evE cf (.chn o p a b c) env h = (evE cf a env h).bind fun x h => (evE cf b env h).bind fun y h => (ofOpt (cmpop o x y) h).bind fun t h =>
  if t then (evE cf c env h).bind fun z h => ofOpt ((cmpop p y z).map .bl) h else .ok (.bl false) h := rfl
@[simp] theorem e_tup {es : List E} : evE cf (.tup es) env h = (evEs cf es env h).bind fun vs h => .ok (.tup vs) h := rfl
@[simp] theorem e_idx {a i : E} : evE cf (.idx a i) env h = (evE cf a env h).bind fun x h => (evE cf i env h).bind fun y h => ofOpt (getH h x y) h := rfl
@[simp] theorem e_slc {a : E} {lo hi : Option E} : evE cf (.slc a lo hi) env h = (evE cf a env h).bind fun x h => (evO cf lo env h).bind fun l h => (evO cf hi env h).bind fun u h => ofOpt (getS x l u) h := rfl
@[simp] theorem e_rev {a : E} : evE cf (.rev a) env h = (evE cf a env h).bind fun x h => ofOpt (getR x) h := rfl
@[simp] theorem e_call {f : Nat} {es : List E} {ds : List Lit} : evE cf (.call f es ds) env h = (evEs cf es env h).bind fun vs h => cf f (vs ++ ds.map Lit.val) h := rfl
@[simp] theorem e_bi {b : Bi} {es : List E} : evE cf (.bi b es) env h = (evEs cf es env h).bind fun vs h => ofOpt (bicall b vs) h := rfl
@[simp] theorem e_isi {a : E} {t : Ty} : evE cf (.isi a t) env h = (evE cf a env h).bind fun x h => ofOpt ((isiOf x t).map .bl) h := rfl
@[simp] theorem e_fr {f : FE} : evE cf (.fr f) env h = (evF cf f env h).bind fun vs h => .ok (.lst vs) h := rfl
@[simp] theorem e_mk {f : FE} : evE cf (.mk f) env h = (evF cf f env h).bind fun vs h => .ok (.ref h.length) (h ++ [.lst vs]) := rfl
@[simp] theorem e_olen {i : Nat} : evE cf (.olen i) env h = (ofOpt (ownL env i) h).bind fun vs h => .ok (.int vs.length) h := rfl
@[simp] theorem e_oidx {i : Nat} {e : E} : evE cf (.oidx i e) env h = (ofOpt (ownL env i) h).bind fun vs h => (evE cf e env h).bind fun y h => ofOpt ((asI y).bind fun k => atI vs k) h := rfl
@[simp] theorem e_lenDC {k : E} {tg : Tg} {it : It} : evE cf (.lenDC k tg it) env h = (evIt cf it env h).bind fun xs h =>
  if decide (xs.length ≤ most) then (mapF (turnD cf env tg k) xs h).bind fun ks h => .ok (.int (firstKs [] ks).length) h else .bad := rfl
@[simp] theorem es_nil : evEs cf [] env h = .ok [] h := rfl
@[simp] theorem es_cons {e : E} {es : List E} : evEs cf (e :: es) env h = (evE cf e env h).bind fun x h => (evEs cf es env h).bind fun r h => .ok (x :: r) h := rfl
@[simp] theorem o_none : evO cf none env h = .ok none h := rfl
@[simp] theorem o_some {e : E} : evO cf (some e) env h = (evE cf e env h).bind fun x h => (ofOpt (asI x) h).bind fun i h => .ok (some i) h := rfl
@[simp] theorem f_lst {es : List E} : evF cf (.lst es) env h = evEs cf es env h := rfl
@[simp] theorem f_of {e : E} : evF cf (.of e) env h = (evE cf e env h).bind fun x h => ofOpt (itemsOf x) h := rfl
@[simp] theorem f_ofIt {it : It} : evF cf (.ofIt it) env h = (evIt cf it env h).bind fun xs h => if decide (xs.length ≤ most) then .ok xs h else .bad := rfl
@[simp] theorem f_items {i : Nat} : evF cf (.items i) env h = (ofOpt (ownDL env i) h).bind fun d h => .ok (zipV d.1 d.2) h := rfl
@[simp] theorem f_cat {a b : E} : evF cf (.cat a b) env h = (evE cf a env h).bind fun x h => (evE cf b env h).bind fun y h => match x, y with
    | .lst xs, .lst ys => if xs.length + ys.length ≤ most then .ok (xs ++ ys) h else .bad
    | _, _ => .bad := rfl
@[simp] theorem f_comp {e : E} {tg : Tg} {it : It} {cs : List E} : evF cf (.comp e tg it cs) env h = (evIt cf it env h).bind fun xs h => if decide (xs.length ≤ most) then mapF (turnC cf env tg cs e) xs h else .bad := rfl
@[simp] theorem c_nil : evC cf [] env h = .ok true h := rfl
@[simp] theorem c_cons {c : E} {cs : List E} : evC cf (c :: cs) env h = (evE cf c env h).bind fun x h => (ofOpt (asB x) h).bind fun b h => if b then evC cf cs env h else .ok false h := rfl
@[simp] theorem i_seq {e : E} : evIt cf (.seq e) env h = (evE cf e env h).bind fun x h => ofOpt (itemsOf x) h := rfl
@[simp] theorem i_rng1 {b : E} : evIt cf (.rng1 b) env h = (evE cf b env h).bind fun x h => (ofOpt (asI x) h).bind fun j h => if rgOk j then .ok (rngV 0 j.toNat) h else .bad := rfl
@[simp] theorem i_rng2 {a b : E} : evIt cf (.rng2 a b) env h = (evE cf a env h).bind fun x h => (evE cf b env h).bind fun y h => (ofOpt (asI x) h).bind fun i h => (ofOpt (asI y) h).bind fun j h =>
  if rgOk i && rgOk j then .ok (rngV i (j - i).toNat) h else .bad := rfl
@[simp] theorem keep_t {m : Out Val} : keepIf true m h = m.bind fun y h => .ok (some y) h := rfl
@[simp] theorem keep_f {m : Out Val} : keepIf false m h = .ok none h := rfl
/-! ### values -/
@[simp] theorem lv_non : Lit.non.val = Val.non := rfl
@[simp] theorem lv_bl {b : Bool} : (Lit.bl b).val = Val.bl b := rfl
@[simp] theorem lv_int {i : Int} : (Lit.int i).val = Val.int i := rfl
@[simp] theorem lv_str {x : Str} : (Lit.str x).val = Val.str x := rfl
@[simp] theorem asB_bl {b : Bool} : asB (.bl b) = some b := rfl
@[simp] theorem asI_int {i : Int} : asI (.int i) = some i := rfl
@[simp] theorem var_0 {x : Val} {r : Env} : varV (some (.v x) :: r) 0 = some x := rfl
@[simp] theorem var_s {s : Option Slot} {r : Env} {n : Nat} : varV (s :: r) (n + 1) = varV r n := rfl
@[simp] theorem own_0 {x : List Val} {r : Env} : ownL (some (.own x) :: r) 0 = some x := rfl
@[simp] theorem own_s {s : Option Slot} {r : Env} {n : Nat} : ownL (s :: r) (n + 1) = ownL r n := rfl
@[simp] theorem ownD_0 {x y : List Val} {r : Env} : ownDL (some (.ownD x y) :: r) 0 = some (x, y) := rfl
@[simp] theorem ownD_s {s : Option Slot} {r : Env} {n : Nat} : ownDL (s :: r) (n + 1) = ownDL r n := rfl
@[simp] theorem b_addI {i j : Int} : binop .add (.int i) (.int j) = some (.int (i + j)) := rfl
@[simp] theorem b_addB {i : Int} {b : Bool} : binop .add (.int i) (.bl b) = some (.int (i + if b then 1 else 0)) := rfl
@[simp] theorem b_subI {i j : Int} : binop .sub (.int i) (.int j) = some (.int (i - j)) := rfl
theorem b_mul {i j : Int} (h1 : sm i = true) (h2 : sm j = true) : binop .mul (.int i) (.int j) = some (.int (i * j)) := by
  show (if sm i && sm j then some (Val.int (i * j)) else none) = _
  rw [h1, h2]
  rfl
theorem b_fdiv {i j : Int} (h1 : 0 < j) (h2 : j < 2 ^ 9000) : binop .fdiv (.int i) (.int j) = some (.int (i / j)) := by
  show (if decide (0 < j) && decide (j < 2 ^ 9000) then some (Val.int (i / j)) else none) = _
  rw [decide_eq_true h1, decide_eq_true h2]
  rfl
theorem b_mod {i j : Int} (h1 : 0 < j) : binop .mod (.int i) (.int j) = some (.int (i % j)) := by
  show (if decide (0 < j) then some (Val.int (i % j)) else none) = _
  rw [decide_eq_true h1]
  rfl
theorem b_pow {i j : Int} (h0 : 0 ≤ j) (h1 : j ≤ 100) (h2 : i.natAbs < 2 ^ 100000) : binop .pow (.int i) (.int j) = some (.int (i ^ j.toNat)) := by
  show (if decide (0 ≤ j) && (decide (j ≤ 100) && decide (i.natAbs < 2 ^ 100000)) then some (Val.int (i ^ j.toNat)) else none) = _
  rw [decide_eq_true h0, decide_eq_true h1, decide_eq_true h2]
  rfl
@[simp] theorem c_lt {i j : Int} : cmpop .lt (.int i) (.int j) = some (decide (i < j)) := rfl
@[simp] theorem c_le {i j : Int} : cmpop .le (.int i) (.int j) = some (decide (i ≤ j)) := rfl
@[simp] theorem c_gt {i j : Int} : cmpop .gt (.int i) (.int j) = some (decide (j < i)) := rfl
@[simp] theorem c_ge {i j : Int} : cmpop .ge (.int i) (.int j) = some (decide (j ≤ i)) := rfl
@[simp] theorem c_isN {v : Val} : cmpop .is_ v .non = some (isNon v) := by cases v <;> rfl
@[simp] theorem c_isnotN {v : Val} : cmpop .isnot v .non = some (!isNon v) := by cases v <;> rfl
@[simp] theorem non_i {i : Int} : isNon (.int i) = false := rfl
@[simp] theorem non_n : isNon .non = true := rfl
@[simp] theorem non_t {vs : List Val} : isNon (.tup vs) = false := rfl
@[simp] theorem non_l {vs : List Val} : isNon (.lst vs) = false := rfl
@[simp] theorem non_s {x : Str} : isNon (.str x) = false := rfl
/-- data that == takes as it is -/
def plainV (v : Val) : Bool := eqOk v && strsOk v
theorem c_eq {v w : Val} (h1 : plainV v = true) (h2 : plainV w = true) : cmpop .eq v w = some (veq v w) := by
  unfold plainV at h1 h2
  rw [Bool.and_eq_true] at h1 h2
  have e : cmpop .eq v w = if eqOk v && eqOk w && (strsOk v && strsOk w) then some (veq v w) else none := by cases v <;> cases w <;> rfl
  rw [e, h1.1, h2.1, h1.2, h2.2]
  rfl
theorem c_ne {v w : Val} (h1 : plainV v = true) (h2 : plainV w = true) : cmpop .ne v w = some (!veq v w) := by
  unfold plainV at h1 h2
  rw [Bool.and_eq_true] at h1 h2
  have e : cmpop .ne v w = if eqOk v && eqOk w && (strsOk v && strsOk w) then some (!veq v w) else none := by cases v <;> cases w <;> rfl
  rw [e, h1.1, h2.1, h1.2, h2.2]
  rfl
@[simp] theorem c_eqI {i j : Int} : cmpop .eq (.int i) (.int j) = some (i == j) := rfl
@[simp] theorem c_neI {i j : Int} : cmpop .ne (.int i) (.int j) = some (!(i == j)) := rfl
@[simp] theorem plain_i {i : Int} : plainV (.int i) = true := rfl
@[simp] theorem plain_b {b : Bool} : plainV (.bl b) = true := rfl
@[simp] theorem plain_n : plainV .non = true := rfl
@[simp] theorem it_t {vs : List Val} : itemsOf (.tup vs) = some vs := rfl
@[simp] theorem it_l {vs : List Val} : itemsOf (.lst vs) = some vs := rfl
@[simp] theorem g_t {vs : List Val} {i : Int} : getH h (.tup vs) (.int i) = atI vs i := rfl
@[simp] theorem g_l {vs : List Val} {i : Int} : getH h (.lst vs) (.int i) = atI vs i := rfl
@[simp] theorem g_s {ns : List Int} {i : Int} : getH h (.scr ns) (.int i) = (atI ns i).map .int := rfl
@[simp] theorem at_0 {α : Type} {x : α} {r : List α} : atI (x :: r) 0 = some x := by
  unfold atI ixN
  rw [if_pos (by decide), if_pos (by rw [List.length_cons]; omega)]
  rfl
theorem at_n {α : Type} {xs : List α} {n : Nat} (hn : n < xs.length) : atI xs (n : Int) = xs[n]? := by
  unfold atI ixN
  rw [if_pos (by omega), if_pos (by omega)]
  rfl
@[simp] theorem at_1 {α : Type} {x y : α} {r : List α} : atI (x :: y :: r) 1 = some y := at_n (n := 1) (by simp)
@[simp] theorem at_2 {α : Type} {x y z : α} {r : List α} : atI (x :: y :: z :: r) 2 = some z := at_n (n := 2) (by simp)
@[simp] theorem at_3 {α : Type} {x y z u : α} {r : List α} : atI (x :: y :: z :: u :: r) 3 = some u := at_n (n := 3) (by simp)
@[simp] theorem bi_len {v : Val} : bicall .len [v] = lenV v := rfl
@[simp] theorem bi_int {v : Val} : bicall .int_ [v] = intV v := rfl
@[simp] theorem bi_abs {v : Val} : bicall .abs [v] = absV v := rfl
@[simp] theorem bi_str {v : Val} : bicall .str_ [v] = strV v := rfl
@[simp] theorem bi_repr {v : Val} : bicall .repr [v] = (reprOf v).map .str := rfl
@[simp] theorem bi_tuple {v : Val} : bicall .tuple_ [v] = tupV v := rfl
@[simp] theorem bi_sum {v : Val} : bicall .sum [v] = sumV v := rfl
@[simp] theorem bi_all {v : Val} : bicall .all_ [v] = allV v := rfl
@[simp] theorem bi_any {v : Val} : bicall .any_ [v] = anyV v := rfl
@[simp] theorem bi_max {v : Val} : bicall .max_ [v] = maxV v := rfl
@[simp] theorem bi_min {v : Val} : bicall .min_ [v] = minV v := rfl
@[simp] theorem bi_max2 {i j : Int} : bicall .max_ [.int i, .int j] = some (.int (if j > i then j else i)) := rfl
@[simp] theorem bi_min2 {i j : Int} : bicall .min_ [.int i, .int j] = some (.int (if j < i then j else i)) := rfl
@[simp] theorem len_t {vs : List Val} : lenV (.tup vs) = some (.int vs.length) := rfl
@[simp] theorem len_l {vs : List Val} : lenV (.lst vs) = some (.int vs.length) := rfl
@[simp] theorem len_scr {ns : List Int} : lenV (.scr ns) = some (.int ns.length) := rfl
@[simp] theorem int_i {i : Int} : intV (.int i) = some (.int i) := rfl
@[simp] theorem int_b {b : Bool} : intV (.bl b) = some (.int (if b then 1 else 0)) := rfl
@[simp] theorem abs_i {i : Int} : absV (.int i) = some (.int (if i < 0 then -i else i)) := rfl
@[simp] theorem tup_l {vs : List Val} : tupV (.lst vs) = some (.tup vs) := rfl
@[simp] theorem tup_t {vs : List Val} : tupV (.tup vs) = some (.tup vs) := rfl
@[simp] theorem isi_ii {i : Int} : isiOf (.int i) .int = some true := rfl
@[simp] theorem isi_ib {i : Int} : isiOf (.int i) .bool = some false := rfl
@[simp] theorem isi_tt {vs : List Val} : isiOf (.tup vs) .tuple = some true := rfl
@[simp] theorem rev_t {vs : List Val} : getR (.tup vs) = some (.tup vs.reverse) := rfl
@[simp] theorem slc_t {vs : List Val} {lo hi : Option Int} : getS (.tup vs) lo hi = some (.tup (cut vs lo hi)) := rfl
/-! ### targets -/
@[simp] theorem t_v {i : Nat} {x : Val} {e : Env} : bindT (.v i) x e = some (e.set i (some (.v x))) := rfl
@[simp] theorem t_t {l : List Tg} {vs : List Val} {e : Env} : bindT (.t l) (.tup vs) e = bindTs l vs e := rfl
@[simp] theorem t_nil {e : Env} : bindTs [] [] e = some e := rfl
@[simp] theorem t_cons {t : Tg} {ts : List Tg} {v : Val} {vs : List Val} {e : Env} : bindTs (t :: ts) (v :: vs) e = (bindT t v e).bind fun e => bindTs ts vs e := rfl
@[simp] theorem sl_v {i : Nat} : Tg.slots (.v i) = [i] := rfl
@[simp] theorem sl_t {l : List Tg} : Tg.slots (.t l) = Tg.slotss l := rfl
@[simp] theorem sls_nil : Tg.slotss [] = [] := rfl
@[simp] theorem sls_cons {t : Tg} {l : List Tg} : Tg.slotss (t :: l) = t.slots ++ Tg.slotss l := rfl
@[simp] theorem wipe_nil {e : Env} : wipeE e [] = e := rfl
@[simp] theorem wipe_cons {e : Env} {i : Nat} {is : List Nat} : wipeE e (i :: is) = (wipeE e is).set i none := rfl
/-! ### statements -/
@[simp] theorem s_set_ {i : Nat} {e : E} : evS cf (.set i e) env h = (evE cf e env h).toS fun x h => .ok .nxt (env.set i (some (.v x))) h := rfl
@[simp] theorem s_tset_ {tg : Tg} {e : E} : evS cf (.tset tg e) env h = (evE cf e env h).toS fun x h => (ofOpt (bindT tg x env) h).toS fun env' h => .ok .nxt env' h := rfl
@[simp] theorem s_par_ {is : List Nat} {es : List E} : evS cf (.par is es) env h = (evEs cf es env h).toS fun vs h => .ok .nxt (setSlots env is vs) h := rfl
@[simp] theorem s_unK_ {is : List Nat} {x : Str} {ns : List Int} : evS cf (.unK is x ns) env h = .ok .nxt (setSlots env is (ns.map .int)) h := rfl
@[simp] theorem s_own_ {i : Nat} {f : FE} : evS cf (.own i f) env h = (evF cf f env h).toS fun vs h => .ok .nxt (env.set i (some (.own vs))) h := rfl
@[simp] theorem s_ownD_ {i : Nat} : evS cf (.ownD i) env h = .ok .nxt (env.set i (some (.ownD [] []))) h := rfl
@[simp] theorem s_frz_ {i : Nat} : evS cf (.frz i) env h = (ofOpt (ownL env i) h).toS fun vs h => .ok .nxt (env.set i (some (.v (.lst vs)))) h := rfl
@[simp] theorem s_app_ {i : Nat} {e : E} : evS cf (.app i e) env h = (ofOpt (ownL env i) h).toS fun vs h => (evE cf e env h).toS fun x h => if decide (vs.length ≤ most) then .ok .nxt (env.set i (some (.own (vs ++ [x])))) h else .bad := rfl
@[simp] theorem s_setI_ {a i e : E} : evS cf (.setI a i e) env h = (evE cf e env h).toS fun v h => (evE cf a env h).toS fun o h => (evE cf i env h).toS fun k h => (ofOpt (setH h o k v) h).toS fun h' _ => .ok .nxt env h' := rfl
@[simp] theorem s_oset_ {x : Nat} {i e : E} : evS cf (.oset x i e) env h = (ofOpt (ownL env x) h).toS fun vs h => (evE cf e env h).toS fun v h => (evE cf i env h).toS fun k h => (ofOpt ((asI k).bind fun k => ixN vs.length k) h).toS fun j h =>
  .ok .nxt (env.set x (some (.own (vs.set j v)))) h := rfl
@[simp] theorem s_dset_ {x : Nat} {k e : E} : evS cf (.dset x k e) env h = (ofOpt (ownDL env x) h).toS fun d h => (evE cf e env h).toS fun v h => (evE cf k env h).toS fun k h =>
  if keyT k && decide (d.1.length ≤ most) then .ok .nxt (env.set x (some (.ownD (dput d.1 d.2 k v).1 (dput d.1 d.2 k v).2))) h else .bad := rfl
@[simp] theorem s_aug_ {i : Nat} {o : BOp} {e : E} : evS cf (.aug i o e) env h = (ofOpt (varV env i) h).toS fun x h => (evE cf e env h).toS fun y h => (ofOpt (augop o x y) h).toS fun z h => .ok .nxt (env.set i (some (.v z))) h := rfl
@[simp] theorem s_ret_ {e : E} : evS cf (.ret e) env h = (evE cf e env h).toS fun x h => .ok (.ret x) env h := rfl
@[simp] theorem s_retN_ : evS cf .retN env h = .ok (.ret .non) env h := rfl
@[simp] theorem s_if_ {c : E} {a b : List S} : evS cf (.if_ c a b) env h = (evE cf c env h).toS fun x h => (ofOpt (asB x) h).toS fun t h => if t then evSs cf a env h else evSs cf b env h := rfl
@[simp] theorem s_for_ {tg : Tg} {it : It} {b : List S} : evS cf (.for_ tg it b) env h = (evIt cf it env h).toS fun xs h => loopF (turnF cf tg b) xs env h := rfl
@[simp] theorem s_while_ {c : E} {b : List S} : evS cf (.while_ c b) env h = loopW (condW cf c) (turnW cf b) laps env h := rfl
@[simp] theorem s_ex_ {e : E} : evS cf (.ex e) env h = (evE cf e env h).toS fun _ h => .ok .nxt env h := rfl
@[simp] theorem s_pass_ : evS cf .pass env h = .ok .nxt env h := rfl
@[simp] theorem ss_nil : evSs cf [] env h = .ok .nxt env h := rfl
@[simp] theorem ss_cons {s : S} {ss : List S} : evSs cf (s :: ss) env h = (evS cf s env h).bind fun env h => evSs cf ss env h := rfl
@[simp] theorem sl_cons {i : Nat} {is : List Nat} {v : Val} {vs : List Val} {e : Env} : setSlots e (i :: is) (v :: vs) = setSlots (e.set i (some (.v v))) is vs := rfl
@[simp] theorem sl_nil {e : Env} : setSlots e [] [] = e := rfl
@[simp] theorem lf_nil {g : Val → Env → Hs → OutS} : loopF g [] env h = .ok .nxt env h := rfl
@[simp] theorem lf_cons {g : Val → Env → Hs → OutS} {v : Val} {vs : List Val} : loopF g (v :: vs) env h = (g v env h).bind fun env h => loopF g vs env h := rfl
theorem lw_s {c : Env → Hs → Out Bool} {g : Env → Hs → OutS} {n : Nat} : loopW c g (n + 1) env h = (c env h).toS fun b h => if b then (g env h).bind fun env h => loopW c g n env h else .ok .nxt env h := rfl
@[simp] theorem mf_nil {g : Val → Hs → Out (Option Val)} : mapF g [] h = .ok [] h := rfl
@[simp] theorem mf_cons {g : Val → Hs → Out (Option Val)} {v : Val} {vs : List Val} : mapF g (v :: vs) h = (nx (g v h)).bind fun o h => (mapF g vs h).bind fun r h => .ok (consO o r) h := rfl
@[simp] theorem co_some {x : Val} {r : List Val} : consO (some x) r = x :: r := rfl
@[simp] theorem co_none {r : List Val} : consO none r = r := rfl
@[simp] theorem ret_v {v : Val} : retOf (.ok (.ret v) env h) = .ok v h := rfl
@[simp] theorem ret_n : retOf (.ok .nxt env h) = .ok .non h := rfl
/-- all turns of a comprehension alike: none changes anything -/
theorem mapF_pure {g : Val → Hs → Out (Option Val)} {f : Val → Val} : ∀ (xs : List Val), (∀ x ∈ xs, g x h = .ok (some (f x)) h) → mapF g xs h = .ok (xs.map f) h
  | [], _ => rfl
  | x :: xs, q => by
    rw [mf_cons, q x List.mem_cons_self]
    show (mapF g xs h).bind _ = _
    rw [mapF_pure xs fun y hy => q y (List.mem_cons_of_mem _ hy)]
    rfl
end
theorem call_eq {U : Nat → Option FDef} {k f : Nat} {args : List Val} {h : Hs} {d : FDef} (hU : U f = some d) (hl : args.length = d.ps) : callD U (k + 1) f args h = retOf (evSs (callD U k) d.body (startE d.n args) h) := by
  show (match U f with
    | some d => if args.length = d.ps then retOf (evSs (callD U k) d.body (startE d.n args) h) else .bad
    | none => .bad) = _
  rw [hU]
  exact if_pos hl
theorem start_eq {n : Nat} {args : List Val} : startE n args = args.map (fun v => some (Slot.v v)) ++ List.replicate (n - args.length) none := rfl
end Pyi
set_option Elab.async false
set_option linter.all false
set_option maxRecDepth 100000
set_option maxHeartbeats 0
/-! k06: the law's text beside the interpreter's. Printed by gen.py. -/
namespace LT
open PySem PySem.Spec PyProof.Rows L2 Pyi
def top (i : Nat) : Stmt := PySem.Challenge.pw_sizesreckoned_k06_whole_lots_filled.main.body.getD i (.Pass ⟨0, 0, 0, 0⟩)

def d0 : FDef := ⟨3, 3, [.if_ (.or_ (.not_ (.isi (.var 0) .int)) (.isi (.var 0) .bool)) [.ret (.lit (.bl false))] [], .ret (.and_ (.or_ (.cmp .is_ (.var 1) (.lit .non)) (.cmp .le (.var 1) (.var 0))) (.or_ (.cmp .is_ (.var 2) (.lit .non)) (.cmp .le (.var 0) (.var 2))))]⟩
def d1 : FDef := ⟨3, 3, [.ret (.and_ (.isi (.var 0) .tuple) (.and_ (.cmp .le (.var 1) (.bi .len [.var 0])) (.or_ (.cmp .is_ (.var 2) (.lit .non)) (.cmp .le (.bi .len [.var 0]) (.var 2)))))]⟩
def d2 : FDef := ⟨2, 2, [.while_ (.cmp .gt (.var 1) (.lit (.int 0))) [.par [0, 1] [.var 1, .bin .mod (.var 0) (.var 1)]], .ret (.var 0)]⟩
def d3 : FDef := ⟨2, 3, [.set 2 (.call 2 [.var 0, .var 1] []), .ret (.tup [.bin .fdiv (.var 0) (.var 2), .bin .fdiv (.var 1) (.var 2)])]⟩
def d4 : FDef := ⟨1, 1, [.if_ (.or_ (.not_ (.call 1 [.var 0, .glb "PAIR" (.int 2), .glb "PAIR" (.int 2)] [])) (.or_ (.not_ (.call 0 [.idx (.var 0) (.lit (.int 0)), .lit (.int 0)] [.non])) (.not_ (.call 0 [.idx (.var 0) (.lit (.int 1)), .lit (.int 1)] [.non])))) [.ret (.lit (.bl false))] [], .ret (.cmp .eq (.call 2 [.idx (.var 0) (.lit (.int 0)), .idx (.var 0) (.lit (.int 1))] []) (.lit (.int 1)))]⟩
def d5 : FDef := ⟨2, 2, [.ret (.and_ (.call 4 [.var 0] []) (.chn .lt .le (.lit (.int 0)) (.idx (.var 0) (.lit (.int 0))) (.bin .mul (.var 1) (.idx (.var 0) (.lit (.int 1))))))]⟩
def d6 : FDef := ⟨2, 2, [.ret (.call 3 [.bin .mul (.idx (.var 0) (.lit (.int 0))) (.idx (.var 1) (.lit (.int 0))), .bin .mul (.idx (.var 0) (.lit (.int 1))) (.idx (.var 1) (.lit (.int 1)))] [])]⟩
def d7 : FDef := ⟨1, 5, [.unK [1, 2] "NOUGHT" [0, 1], .for_ (.t [.v 3, .v 4]) (.seq (.var 0)) [.tset (.t [.v 1, .v 2]) (.call 3 [.bin .add (.bin .mul (.var 1) (.var 4)) (.bin .mul (.var 3) (.var 2)), .bin .mul (.var 2) (.var 4)] [])], .ret (.tup [.var 1, .var 2])]⟩
def d8 : FDef := ⟨2, 2, [.if_ (.or_ (.not_ (.call 1 [.var 0, .glb "PAIR" (.int 2), .glb "PAIR" (.int 2)] [])) (.or_ (.not_ (.call 0 [.idx (.var 0) (.lit (.int 1)), .lit (.int 1)] [.non])) (.not_ (.call 4 [.idx (.var 0) (.lit (.int 0))] [])))) [.ret (.lit (.bl false))] [], .ret (.ite (.cmp .is_ (.var 1) (.lit .non)) (.cmp .gt (.idx (.idx (.var 0) (.lit (.int 0))) (.lit (.int 0))) (.lit (.int 0))) (.call 5 [.idx (.var 0) (.lit (.int 0)), .var 1] []))]⟩
def d9 : FDef := ⟨2, 5, [.if_ (.or_ (.not_ (.call 1 [.var 0, .lit (.int 0)] [.non])) (.not_ (.bi .all_ [.fr (.comp (.call 8 [.var 2, .var 1] []) (.v 2) (.seq (.var 0)) [])]))) [.ret (.lit (.bl false))] [], .ret (.cmp .eq (.lenDC (.var 3) (.t [.v 3, .v 4]) (.seq (.var 0))) (.bi .len [.var 0]))]⟩
def d10 : FDef := ⟨2, 2, [.if_ (.not_ (.call 9 [.var 0, .var 1] [])) [.nev] []]⟩
def d11 : FDef := ⟨1, 3, [.ex (.call 10 [.var 0, .lit .non] []), .ret (.call 7 [.fr (.comp (.call 6 [.var 1, .tup [.var 2, .lit (.int 1)]] []) (.t [.v 1, .v 2]) (.seq (.var 0)) [])] [])]⟩
def d12 : FDef := ⟨2, 5, [.set 2 (.ite (.cmp .lt (.var 1) (.bi .len [.var 0])) (.idx (.var 0) (.var 1)) (.bin .add (.bin .mul (.lit (.int 293)) (.var 1)) (.lit (.int 139)))), .set 3 (.bin .mul (.bin .mod (.bi .int_ [.bi .abs [.var 2]]) (.bin .pow (.bin .pow (.lit (.int 10)) (.lit (.int 60))) (.lit (.int 5)))) (.bi .int_ [.cmp .ge (.bi .abs [.var 2]) (.bin .pow (.lit (.int 10)) (.lit (.int 18)))])), .set 4 (.bin .mod (.bi .int_ [.var 2]) (.lit (.int 2305843009213693951))), .ret (.mk (.lst [.var 3, .bin .mod (.bi .int_ [.bin .add (.bin .add (.bin .mul (.var 4) (.lit (.int 74561))) (.bin .mul (.bin .mul (.lit (.int 7841)) (.var 1)) (.var 1))) (.lit (.int 211))]) (.lit (.int 2305843009213693921)), .lit (.int 0)]))]⟩
def d13 : FDef := ⟨2, 5, [.if_ (.cmp .gt (.idx (.var 0) (.lit (.int 0))) (.lit (.int 0))) [.set 4 (.bin .mod (.bi .int_ [.idx (.var 0) (.lit (.int 0))]) (.var 1)), .setI (.var 0) (.lit (.int 0)) (.bin .fdiv (.idx (.var 0) (.lit (.int 0))) (.var 1)), .ret (.var 4)] [], .setI (.var 0) (.lit (.int 2)) (.bin .add (.idx (.var 0) (.lit (.int 2))) (.lit (.int 1))), .set 2 (.idx (.fr (.lst [.lit (.int 2147483647), .lit (.int 2147483629), .lit (.int 2147483587), .lit (.int 2147483579), .lit (.int 2147483563)])) (.bin .mod (.bi .int_ [.idx (.var 0) (.lit (.int 2))]) (.lit (.int 5)))), .set 3 (.bin .mod (.bi .int_ [.bin .pow (.bi .int_ [.bin .add (.bin .add (.idx (.var 0) (.lit (.int 1))) (.bin .mul (.bin .mul (.lit (.int 98897)) (.idx (.var 0) (.lit (.int 2)))) (.idx (.var 0) (.lit (.int 2))))) (.lit (.int 101))]) (.lit (.int 3))]) (.var 2)), .set 3 (.bin .mod (.bi .int_ [.bin .mul (.var 3) (.bin .add (.bin .mod (.bi .int_ [.var 3]) (.lit (.int 10531))) (.bin .mul (.lit (.int 197)) (.idx (.var 0) (.lit (.int 2)))))]) (.lit (.int 2305843009213693907))), .ret (.bin .mod (.bi .int_ [.bin .fdiv (.var 3) (.lit (.int 179))]) (.var 1))]⟩
def d14 : FDef := ⟨2, 2, [.ret (.idx (.var 1) (.call 13 [.var 0, .bi .len [.var 1]] []))]⟩
def d15 : FDef := ⟨2, 2, [.ret (.fr (.ofIt (.rng1 (.bi .max_ [.lit (.int 1), .bi .min_ [.var 1, .bi .len [.var 0]]]))))]⟩
def d16 : FDef := ⟨2, 4, [.par [2, 3] [.bi .int_ [.var 0], .bi .int_ [.var 1]], .while_ (.cmp .gt (.var 3) (.lit (.int 0))) [.par [2, 3] [.var 3, .bin .mod (.var 2) (.var 3)]], .ret (.tup [.bin .fdiv (.bi .int_ [.var 0]) (.var 2), .bin .fdiv (.bi .int_ [.var 1]) (.var 2)])]⟩
def d17 : FDef := ⟨1, 5, [.tset (.t [.v 1, .v 2]) (.tup [.lit (.int 0), .lit (.int 1)]), .for_ (.t [.v 3, .v 4]) (.seq (.var 0)) [.tset (.t [.v 1, .v 2]) (.call 16 [.bin .add (.bin .mul (.var 1) (.var 4)) (.bin .mul (.var 3) (.var 2)), .bin .mul (.var 2) (.var 4)] [])], .ret (.tup [.var 1, .var 2])]⟩
def d18 : FDef := ⟨2, 2, [.ret (.call 16 [.bin .mul (.idx (.var 0) (.lit (.int 0))) (.idx (.var 1) (.lit (.int 0))), .bin .mul (.idx (.var 0) (.lit (.int 1))) (.idx (.var 1) (.lit (.int 1)))] [])]⟩
def d19 : FDef := ⟨2, 5, [.par [2, 3, 4] [.call 13 [.var 0, .lit (.int 5)] [], .call 13 [.var 0, .var 1] [], .bin .add (.lit (.int 2)) (.call 13 [.var 0, .call 14 [.var 0, .fr (.lst [.lit (.int 3), .lit (.int 9), .bin .pow (.lit (.int 10)) (.lit (.int 6))])] []] [])], .if_ (.cmp .lt (.var 2) (.lit (.int 2))) [.ret (.tup [.bin .add (.var 3) (.lit (.int 1)), .lit (.int 1)])] [], .if_ (.cmp .eq (.var 2) (.lit (.int 4))) [.ret (.call 16 [.bin .add (.bin .add (.bin .mul (.var 3) (.var 4)) (.lit (.int 1))) (.call 13 [.var 0, .var 4] []), .var 4] [])] [], .ret (.call 16 [.bin .add (.bin .mul (.var 3) (.var 4)) (.idx (.fr (.lst [.lit (.int 1), .bin .sub (.var 4) (.lit (.int 1))])) (.bin .sub (.var 2) (.lit (.int 2)))), .var 4] [])]⟩
def d20 : FDef := ⟨3, 5, [.ownD 3, .for_ (.v 4) (.rng1 (.call 13 [.var 0, .bin .add (.var 2) (.lit (.int 1))] [])) [.dset 3 (.call 19 [.var 0, .var 1] []) (.bin .add (.lit (.int 1)) (.call 13 [.var 0, .call 14 [.var 0, .fr (.lst [.lit (.int 1), .lit (.int 3), .lit (.int 9), .lit (.int 1000)])] []] []))], .ret (.bi .tuple_ [.fr (.items 3)])]⟩
def d21 : FDef := ⟨1, 5, [.tset (.t [.v 1, .v 2]) (.tup [.lit (.int 1), .lit (.int 0)]), .for_ (.t [.v 3, .v 4]) (.seq (.var 0)) [.set 2 (.bin .add (.bin .mul (.var 2) (.idx (.var 3) (.lit (.int 1)))) (.bin .mul (.bin .mul (.idx (.var 3) (.lit (.int 0))) (.var 4)) (.var 1))), .set 1 (.bin .mul (.var 1) (.idx (.var 3) (.lit (.int 1))))], .ret (.call 16 [.var 2, .var 1] [])]⟩
def d22 : FDef := ⟨1, 9, [.if_ (.cmp .ne (.call 11 [.tup []] []) (.tup [.lit (.int 0), .lit (.int 1)])) [.ret (.lit (.bl false))] [], .for_ (.v 1) (.rng1 (.lit (.int 6))) [.set 2 (.call 20 [.var 0, .call 14 [.var 0, .fr (.lst [.lit (.int 2), .lit (.int 60), .lit (.int 600)])] [], .lit (.int 8)] []), .tset (.t [.v 3, .v 4, .v 5]) (.tup [.call 21 [.var 2] [], .call 13 [.var 0, .bin .add (.bi .len [.var 2]) (.lit (.int 1))] [], .bin .add (.lit (.int 1)) (.call 13 [.var 0, .lit (.int 1000)] [])]), .if_ (.or_ (.cmp .ne (.bi .repr [.call 11 [.var 2] []]) (.bi .repr [.var 3])) (.cmp .ne (.call 11 [.rev (.var 2)] []) (.var 3))) [.ret (.lit (.bl false))] [], .if_ (.cmp .ne (.call 17 [.fr (.lst [.call 11 [.slc (.var 2) none (some (.var 4))] [], .call 11 [.slc (.var 2) (some (.var 4)) none] []])] []) (.var 3)) [.ret (.lit (.bl false))] [], .if_ (.cmp .ne (.call 11 [.bi .tuple_ [.fr (.comp (.tup [.var 6, .bin .mul (.var 5) (.var 8)]) (.t [.v 6, .v 8]) (.seq (.var 2)) [])]] []) (.call 18 [.var 3, .tup [.var 5, .lit (.int 1)]] [])) [.ret (.lit (.bl false))] [], .for_ (.t [.v 6, .v 7]) (.seq (.slc (.var 2) none (some (.lit (.int 1))))) [.if_ (.cmp .ne (.call 11 [.slc (.var 2) none (some (.lit (.int 1)))] []) (.call 16 [.bin .mul (.idx (.var 6) (.lit (.int 0))) (.var 7), .idx (.var 6) (.lit (.int 1))] [])) [.ret (.lit (.bl false))] []]], .ret (.lit (.bl true))]⟩
def d23 : FDef := ⟨1, 2, [.ret (.bi .all_ [.fr (.comp (.call 22 [.call 12 [.var 0, .var 1] []] []) (.v 1) (.seq (.call 15 [.var 0, .lit (.int 6)] [])) [])])]⟩
def tab : List (Nat × FDef) := [(0, d0), (1, d1), (2, d2), (3, d3), (4, d4), (5, d5), (6, d6), (7, d7), (8, d8), (9, d9), (10, d10), (11, d11), (12, d12), (13, d13), (14, d14), (15, d15), (16, d16), (17, d17), (18, d18), (19, d19), (20, d20), (21, d21), (22, d22), (23, d23)]
def U (n : Nat) : Option FDef := (tab.find? fun p => p.1 == n).map (·.2)
def lfn : List (Nat × Str) := [(0, "is_integer"), (1, "is_tuple"), (2, "common"), (3, "number"), (4, "is_number"), (5, "is_size"), (6, "times"), (7, "sum_of"), (8, "is_part"), (9, "is_lot"), (10, "check_lot"), (11, "filled"), (12, "_law_pot"), (13, "_law_take"), (14, "_law_of"), (15, "_law_cells"), (16, "_law_number"), (17, "_law_sum"), (18, "_law_times"), (19, "_law_size"), (20, "_law_lot"), (21, "_law_due"), (22, "_law_right"), (23, "law")]
def ldf : List (Nat × List (List Lit)) := [(0, [[.non]]), (1, [[],[.non]]), (2, [[]]), (3, [[]]), (4, [[]]), (5, [[]]), (6, [[]]), (7, [[]]), (8, [[]]), (9, [[]]), (10, [[]]), (11, [[]]), (12, [[]]), (13, [[]]), (14, [[]]), (15, [[]]), (16, [[]]), (17, [[]]), (18, [[]]), (19, [[]]), (20, [[]]), (21, [[]]), (22, [[]]), (23, [[]])]
def lgl : List (Str × Lit) := [("PAIR", (.int 2))]
def lgt : List (Str × List Int) := [("NOUGHT", [0, 1])]
def lk : Lk := ⟨fun n => lfn.lookup n, fun n => (ldf.lookup n).getD [[]], fun x => lgl.lookup x, fun x => lgt.lookup x⟩
theorem c0 : chkSs lk ["value", "low", "high"] d0.body (defScope (top 6)) (defBody (top 6)) = true := by decide +kernel
theorem c1 : chkSs lk ["value", "few", "most"] d1.body (defScope (top 7)) (defBody (top 7)) = true := by decide +kernel
theorem c2 : chkSs lk ["one", "other"] d2.body (defScope (top 8)) (defBody (top 8)) = true := by decide +kernel
theorem c3 : chkSs lk ["over", "under", "share"] d3.body (defScope (top 9)) (defBody (top 9)) = true := by decide +kernel
theorem c4 : chkSs lk ["value"] d4.body (defScope (top 10)) (defBody (top 10)) = true := by decide +kernel
theorem c5 : chkSs lk ["value", "box"] d5.body (defScope (top 11)) (defBody (top 11)) = true := by decide +kernel
theorem c6 : chkSs lk ["one", "other"] d6.body (defScope (top 12)) (defBody (top 12)) = true := by decide +kernel
theorem c7 : chkSs lk ["rows", "over", "under", "mine", "its"] d7.body (defScope (top 13)) (defBody (top 13)) = true := by decide +kernel
theorem c8 : chkSs lk ["value", "box"] d8.body (defScope (top 15)) (defBody (top 15)) = true := by decide +kernel
theorem c9 : chkSs lk ["value", "box", "one", "size", "many"] d9.body (defScope (top 16)) (defBody (top 16)) = true := by decide +kernel
theorem c10 : chkSs lk ["value", "box"] d10.body (defScope (top 17)) (defBody (top 17)) = true := by decide +kernel
theorem c11 : chkSs lk ["lot", "size", "many"] d11.body (defScope (top 18)) (defBody (top 18)) = true := by decide +kernel
theorem c12 : chkSs lk ["script", "place", "cell", "own", "small"] d12.body (defScope (top 20)) (defBody (top 20)) = true := by decide +kernel
theorem c13 : chkSs lk ["pot", "upto", "prime", "mixed", "digit"] d13.body (defScope (top 21)) (defBody (top 21)) = true := by decide +kernel
theorem c14 : chkSs lk ["pot", "some"] d14.body (defScope (top 22)) (defBody (top 22)) = true := by decide +kernel
theorem c15 : chkSs lk ["script", "limit"] d15.body (defScope (top 23)) (defBody (top 23)) = true := by decide +kernel
theorem c16 : chkSs lk ["over", "under", "one", "other"] d16.body (defScope (top 24)) (defBody (top 24)) = true := by decide +kernel
theorem c17 : chkSs lk ["rows", "over", "under", "mine", "its"] d17.body (defScope (top 25)) (defBody (top 25)) = true := by decide +kernel
theorem c18 : chkSs lk ["one", "other"] d18.body (defScope (top 26)) (defBody (top 26)) = true := by decide +kernel
theorem c19 : chkSs lk ["pot", "box", "way", "at", "under"] d19.body (defScope (top 27)) (defBody (top 27)) = true := by decide +kernel
theorem c20 : chkSs lk ["pot", "box", "limit", "found", "lap"] d20.body (defScope (top 28)) (defBody (top 28)) = true := by decide +kernel
theorem c21 : chkSs lk ["lot", "under", "over", "size", "many"] d21.body (defScope (top 29)) (defBody (top 29)) = true := by decide +kernel
theorem c22 : chkSs lk ["pot", "lap", "lot", "due", "at", "many", "size", "number_v", "its"] d22.body (defScope (top 30)) (defBody (top 30)) = true := by decide +kernel
theorem c23 : chkSs lk ["script", "place"] d23.body (defScope (top 31)) (defBody (top 31)) = true := by decide +kernel
def N0 : List Str := ["value", "low", "high"]
def P0 : List Str := ["value", "low", "high"]
def e0 : He.DefD := ⟨("is_integer", none), "is_integer", "is_integer", defArgs (top 6), defBody (top 6), defScope (top 6), [.non, .non], []⟩
def N1 : List Str := ["value", "few", "most"]
def P1 : List Str := ["value", "few", "most"]
def e1 : He.DefD := ⟨("is_tuple", none), "is_tuple", "is_tuple", defArgs (top 7), defBody (top 7), defScope (top 7), [.non], []⟩
def N2 : List Str := ["one", "other"]
def P2 : List Str := ["one", "other"]
def e2 : He.DefD := ⟨("common", none), "common", "common", defArgs (top 8), defBody (top 8), defScope (top 8), [], []⟩
def N3 : List Str := ["over", "under", "share"]
def P3 : List Str := ["over", "under"]
def e3 : He.DefD := ⟨("number", none), "number", "number", defArgs (top 9), defBody (top 9), defScope (top 9), [], []⟩
def N4 : List Str := ["value"]
def P4 : List Str := ["value"]
def e4 : He.DefD := ⟨("is_number", none), "is_number", "is_number", defArgs (top 10), defBody (top 10), defScope (top 10), [], []⟩
def N5 : List Str := ["value", "box"]
def P5 : List Str := ["value", "box"]
def e5 : He.DefD := ⟨("is_size", none), "is_size", "is_size", defArgs (top 11), defBody (top 11), defScope (top 11), [], []⟩
def N6 : List Str := ["one", "other"]
def P6 : List Str := ["one", "other"]
def e6 : He.DefD := ⟨("times", none), "times", "times", defArgs (top 12), defBody (top 12), defScope (top 12), [], []⟩
def N7 : List Str := ["rows", "over", "under", "mine", "its"]
def P7 : List Str := ["rows"]
def e7 : He.DefD := ⟨("sum_of", none), "sum_of", "sum_of", defArgs (top 13), defBody (top 13), defScope (top 13), [], []⟩
def N8 : List Str := ["value", "box"]
def P8 : List Str := ["value", "box"]
def e8 : He.DefD := ⟨("is_part", none), "is_part", "is_part", defArgs (top 15), defBody (top 15), defScope (top 15), [], []⟩
def N9 : List Str := ["value", "box", "one", "size", "many"]
def P9 : List Str := ["value", "box"]
def e9 : He.DefD := ⟨("is_lot", none), "is_lot", "is_lot", defArgs (top 16), defBody (top 16), defScope (top 16), [], []⟩
def N10 : List Str := ["value", "box"]
def P10 : List Str := ["value", "box"]
def e10 : He.DefD := ⟨("check_lot", none), "check_lot", "check_lot", defArgs (top 17), defBody (top 17), defScope (top 17), [], []⟩
def N11 : List Str := ["lot", "size", "many"]
def P11 : List Str := ["lot"]
def e11 : He.DefD := ⟨("filled", none), "filled", "filled", defArgs (top 18), defBody (top 18), defScope (top 18), [], []⟩
def N12 : List Str := ["script", "place", "cell", "own", "small"]
def P12 : List Str := ["script", "place"]
def e12 : He.DefD := ⟨("_law_pot", none), "_law_pot", "_law_pot", defArgs (top 20), defBody (top 20), defScope (top 20), [], []⟩
def N13 : List Str := ["pot", "upto", "prime", "mixed", "digit"]
def P13 : List Str := ["pot", "upto"]
def e13 : He.DefD := ⟨("_law_take", none), "_law_take", "_law_take", defArgs (top 21), defBody (top 21), defScope (top 21), [], []⟩
def N14 : List Str := ["pot", "some"]
def P14 : List Str := ["pot", "some"]
def e14 : He.DefD := ⟨("_law_of", none), "_law_of", "_law_of", defArgs (top 22), defBody (top 22), defScope (top 22), [], []⟩
def N15 : List Str := ["script", "limit"]
def P15 : List Str := ["script", "limit"]
def e15 : He.DefD := ⟨("_law_cells", none), "_law_cells", "_law_cells", defArgs (top 23), defBody (top 23), defScope (top 23), [], []⟩
def N16 : List Str := ["over", "under", "one", "other"]
def P16 : List Str := ["over", "under"]
def e16 : He.DefD := ⟨("_law_number", none), "_law_number", "_law_number", defArgs (top 24), defBody (top 24), defScope (top 24), [], []⟩
def N17 : List Str := ["rows", "over", "under", "mine", "its"]
def P17 : List Str := ["rows"]
def e17 : He.DefD := ⟨("_law_sum", none), "_law_sum", "_law_sum", defArgs (top 25), defBody (top 25), defScope (top 25), [], []⟩
def N18 : List Str := ["one", "other"]
def P18 : List Str := ["one", "other"]
def e18 : He.DefD := ⟨("_law_times", none), "_law_times", "_law_times", defArgs (top 26), defBody (top 26), defScope (top 26), [], []⟩
def N19 : List Str := ["pot", "box", "way", "at", "under"]
def P19 : List Str := ["pot", "box"]
def e19 : He.DefD := ⟨("_law_size", none), "_law_size", "_law_size", defArgs (top 27), defBody (top 27), defScope (top 27), [], []⟩
def N20 : List Str := ["pot", "box", "limit", "found", "lap"]
def P20 : List Str := ["pot", "box", "limit"]
def e20 : He.DefD := ⟨("_law_lot", none), "_law_lot", "_law_lot", defArgs (top 28), defBody (top 28), defScope (top 28), [], []⟩
def N21 : List Str := ["lot", "under", "over", "size", "many"]
def P21 : List Str := ["lot"]
def e21 : He.DefD := ⟨("_law_due", none), "_law_due", "_law_due", defArgs (top 29), defBody (top 29), defScope (top 29), [], []⟩
def N22 : List Str := ["pot", "lap", "lot", "due", "at", "many", "size", "number_v", "its"]
def P22 : List Str := ["pot"]
def e22 : He.DefD := ⟨("_law_right", none), "_law_right", "_law_right", defArgs (top 30), defBody (top 30), defScope (top 30), [], []⟩
def N23 : List Str := ["script", "place"]
def P23 : List Str := ["script"]
def e23 : He.DefD := ⟨("law", none), "law", "law", defArgs (top 31), defBody (top 31), defScope (top 31), [], []⟩
def fn : List He.DefD := [e0, e1, e2, e3, e4, e5, e6, e7, e8, e9, e10, e11, e12, e13, e14, e15, e16, e17, e18, e19, e20, e21, e22, e23]
def fa : List He.Fa := [.glo "is_integer", .glo "is_tuple", .glo "common", .glo "number", .glo "is_number", .glo "is_size", .glo "times", .glo "sum_of", .glo "is_part", .glo "is_lot", .glo "check_lot", .glo "filled", .glo "_law_pot", .glo "_law_take", .glo "_law_of", .glo "_law_cells", .glo "_law_number", .glo "_law_sum", .glo "_law_times", .glo "_law_size", .glo "_law_lot", .glo "_law_due", .glo "_law_right", .glo "law", .glo "NOUGHT", .free "len", .free "int", .free "abs", .free "str", .free "repr", .free "tuple", .free "sum", .free "all", .free "any", .free "max", .free "min", .free "isinstance", .free "range", .free "list", .free "enumerate", .free "zip", .free "set", .free "bool", .int "PAIR" 2]
def ex (K : PySem.W.Frag) : Bool := He.tupB K "NOUGHT" [.int 0, .int 1]
theorem s0 : scopeB N0 P0 (defScope (top 6)) = true := by decide +kernel
theorem r0 {P : Program} {w : World} {K : PySem.W.Frag} {mg : Str → Option Value} {base h : Heap} {ca : Nat → Addr} {fd : FuncData} (X : K.In h) (G : h.Ns mainGlobals mg) (c : He.SaysD fa fn K) (F : FunD K e0.name e0.qual e0.params e0.body e0.scope (e0.dvs K) (e0.kws K) (He.fAd K e0.at_) fd) : FRow U ⟨P, w, K, mg, base, ca⟩ lk 0 "is_integer" (He.ga K "is_integer") fd P0 := by
  refine ⟨He.glo_ok X G (c.facts (f := .glo "is_integer") (by unfold fa; simp)), F.kp, fun dl hd => ?_, _, _, _, _, _, _, _, N0, d0, F, scopeB_ok s0, rfl, rfl, rfl, c0⟩
  have hd : dl ∈ ([[.non]] : List (List Lit)) := hd
  rcases List.mem_cons.mp hd with rfl | hd
  · obtain ⟨ds, hv, hb⟩ := F.binds1 (ps := P0) 2 1 (by simp [He.DefD.dvs, e0]) rfl fun T kV doc pm an cdv ct us its h1 h2 => match us, its, h1, h2 with | [_, _], [_, _], _, _ => ⟨_, rfl, rfl⟩
    exact ⟨ds, hb, hv⟩
  exact nomatch hd
theorem s1 : scopeB N1 P1 (defScope (top 7)) = true := by decide +kernel
theorem r1 {P : Program} {w : World} {K : PySem.W.Frag} {mg : Str → Option Value} {base h : Heap} {ca : Nat → Addr} {fd : FuncData} (X : K.In h) (G : h.Ns mainGlobals mg) (c : He.SaysD fa fn K) (F : FunD K e1.name e1.qual e1.params e1.body e1.scope (e1.dvs K) (e1.kws K) (He.fAd K e1.at_) fd) : FRow U ⟨P, w, K, mg, base, ca⟩ lk 1 "is_tuple" (He.ga K "is_tuple") fd P1 := by
  refine ⟨He.glo_ok X G (c.facts (f := .glo "is_tuple") (by unfold fa; simp)), F.kp, fun dl hd => ?_, _, _, _, _, _, _, _, N1, d1, F, scopeB_ok s1, rfl, rfl, rfl, c1⟩
  have hd : dl ∈ ([[],[.non]] : List (List Lit)) := hd
  rcases List.mem_cons.mp hd with rfl | hd
  · obtain ⟨ds, hv, hb⟩ := F.binds1 (ps := P1) 3 1 (by simp [He.DefD.dvs, e1]) rfl fun T kV doc pm an cdv ct us its h1 h2 => match us, its, h1, h2 with | [_, _, _], [_], _, _ => ⟨_, rfl, rfl⟩
    exact ⟨ds, hb, hv⟩
  rcases List.mem_cons.mp hd with rfl | hd
  · obtain ⟨ds, hv, hb⟩ := F.binds1 (ps := P1) 2 0 (by simp [He.DefD.dvs, e1]) rfl fun T kV doc pm an cdv ct us its h1 h2 => match us, its, h1, h2 with | [_, _], [_], _, _ => ⟨_, rfl, rfl⟩
    exact ⟨ds, hb, hv⟩
  exact nomatch hd
theorem s2 : scopeB N2 P2 (defScope (top 8)) = true := by decide +kernel
theorem r2 {P : Program} {w : World} {K : PySem.W.Frag} {mg : Str → Option Value} {base h : Heap} {ca : Nat → Addr} {fd : FuncData} (X : K.In h) (G : h.Ns mainGlobals mg) (c : He.SaysD fa fn K) (F : FunD K e2.name e2.qual e2.params e2.body e2.scope (e2.dvs K) (e2.kws K) (He.fAd K e2.at_) fd) : FRow U ⟨P, w, K, mg, base, ca⟩ lk 2 "common" (He.ga K "common") fd P2 := by
  refine ⟨He.glo_ok X G (c.facts (f := .glo "common") (by unfold fa; simp)), F.kp, fun dl hd => ?_, _, _, _, _, _, _, _, N2, d2, F, scopeB_ok s2, rfl, rfl, rfl, c2⟩
  have hd : dl ∈ ([[]] : List (List Lit)) := hd
  rcases List.mem_cons.mp hd with rfl | hd
  · exact ⟨[], F.bindsN (ps := P2) fun _ _ _ _ _ _ us hl => match us, hl with | [_, _], _ => rfl, .nil⟩
  exact nomatch hd
theorem s3 : scopeB N3 P3 (defScope (top 9)) = true := by decide +kernel
theorem r3 {P : Program} {w : World} {K : PySem.W.Frag} {mg : Str → Option Value} {base h : Heap} {ca : Nat → Addr} {fd : FuncData} (X : K.In h) (G : h.Ns mainGlobals mg) (c : He.SaysD fa fn K) (F : FunD K e3.name e3.qual e3.params e3.body e3.scope (e3.dvs K) (e3.kws K) (He.fAd K e3.at_) fd) : FRow U ⟨P, w, K, mg, base, ca⟩ lk 3 "number" (He.ga K "number") fd P3 := by
  refine ⟨He.glo_ok X G (c.facts (f := .glo "number") (by unfold fa; simp)), F.kp, fun dl hd => ?_, _, _, _, _, _, _, _, N3, d3, F, scopeB_ok s3, rfl, rfl, rfl, c3⟩
  have hd : dl ∈ ([[]] : List (List Lit)) := hd
  rcases List.mem_cons.mp hd with rfl | hd
  · exact ⟨[], F.bindsN (ps := P3) fun _ _ _ _ _ _ us hl => match us, hl with | [_, _], _ => rfl, .nil⟩
  exact nomatch hd
theorem s4 : scopeB N4 P4 (defScope (top 10)) = true := by decide +kernel
theorem r4 {P : Program} {w : World} {K : PySem.W.Frag} {mg : Str → Option Value} {base h : Heap} {ca : Nat → Addr} {fd : FuncData} (X : K.In h) (G : h.Ns mainGlobals mg) (c : He.SaysD fa fn K) (F : FunD K e4.name e4.qual e4.params e4.body e4.scope (e4.dvs K) (e4.kws K) (He.fAd K e4.at_) fd) : FRow U ⟨P, w, K, mg, base, ca⟩ lk 4 "is_number" (He.ga K "is_number") fd P4 := by
  refine ⟨He.glo_ok X G (c.facts (f := .glo "is_number") (by unfold fa; simp)), F.kp, fun dl hd => ?_, _, _, _, _, _, _, _, N4, d4, F, scopeB_ok s4, rfl, rfl, rfl, c4⟩
  have hd : dl ∈ ([[]] : List (List Lit)) := hd
  rcases List.mem_cons.mp hd with rfl | hd
  · exact ⟨[], F.bindsN (ps := P4) fun _ _ _ _ _ _ us hl => match us, hl with | [_], _ => rfl, .nil⟩
  exact nomatch hd
theorem s5 : scopeB N5 P5 (defScope (top 11)) = true := by decide +kernel
theorem r5 {P : Program} {w : World} {K : PySem.W.Frag} {mg : Str → Option Value} {base h : Heap} {ca : Nat → Addr} {fd : FuncData} (X : K.In h) (G : h.Ns mainGlobals mg) (c : He.SaysD fa fn K) (F : FunD K e5.name e5.qual e5.params e5.body e5.scope (e5.dvs K) (e5.kws K) (He.fAd K e5.at_) fd) : FRow U ⟨P, w, K, mg, base, ca⟩ lk 5 "is_size" (He.ga K "is_size") fd P5 := by
  refine ⟨He.glo_ok X G (c.facts (f := .glo "is_size") (by unfold fa; simp)), F.kp, fun dl hd => ?_, _, _, _, _, _, _, _, N5, d5, F, scopeB_ok s5, rfl, rfl, rfl, c5⟩
  have hd : dl ∈ ([[]] : List (List Lit)) := hd
  rcases List.mem_cons.mp hd with rfl | hd
  · exact ⟨[], F.bindsN (ps := P5) fun _ _ _ _ _ _ us hl => match us, hl with | [_, _], _ => rfl, .nil⟩
  exact nomatch hd
theorem s6 : scopeB N6 P6 (defScope (top 12)) = true := by decide +kernel
theorem r6 {P : Program} {w : World} {K : PySem.W.Frag} {mg : Str → Option Value} {base h : Heap} {ca : Nat → Addr} {fd : FuncData} (X : K.In h) (G : h.Ns mainGlobals mg) (c : He.SaysD fa fn K) (F : FunD K e6.name e6.qual e6.params e6.body e6.scope (e6.dvs K) (e6.kws K) (He.fAd K e6.at_) fd) : FRow U ⟨P, w, K, mg, base, ca⟩ lk 6 "times" (He.ga K "times") fd P6 := by
  refine ⟨He.glo_ok X G (c.facts (f := .glo "times") (by unfold fa; simp)), F.kp, fun dl hd => ?_, _, _, _, _, _, _, _, N6, d6, F, scopeB_ok s6, rfl, rfl, rfl, c6⟩
  have hd : dl ∈ ([[]] : List (List Lit)) := hd
  rcases List.mem_cons.mp hd with rfl | hd
  · exact ⟨[], F.bindsN (ps := P6) fun _ _ _ _ _ _ us hl => match us, hl with | [_, _], _ => rfl, .nil⟩
  exact nomatch hd
theorem s7 : scopeB N7 P7 (defScope (top 13)) = true := by decide +kernel
theorem r7 {P : Program} {w : World} {K : PySem.W.Frag} {mg : Str → Option Value} {base h : Heap} {ca : Nat → Addr} {fd : FuncData} (X : K.In h) (G : h.Ns mainGlobals mg) (c : He.SaysD fa fn K) (F : FunD K e7.name e7.qual e7.params e7.body e7.scope (e7.dvs K) (e7.kws K) (He.fAd K e7.at_) fd) : FRow U ⟨P, w, K, mg, base, ca⟩ lk 7 "sum_of" (He.ga K "sum_of") fd P7 := by
  refine ⟨He.glo_ok X G (c.facts (f := .glo "sum_of") (by unfold fa; simp)), F.kp, fun dl hd => ?_, _, _, _, _, _, _, _, N7, d7, F, scopeB_ok s7, rfl, rfl, rfl, c7⟩
  have hd : dl ∈ ([[]] : List (List Lit)) := hd
  rcases List.mem_cons.mp hd with rfl | hd
  · exact ⟨[], F.bindsN (ps := P7) fun _ _ _ _ _ _ us hl => match us, hl with | [_], _ => rfl, .nil⟩
  exact nomatch hd
theorem s8 : scopeB N8 P8 (defScope (top 15)) = true := by decide +kernel
theorem r8 {P : Program} {w : World} {K : PySem.W.Frag} {mg : Str → Option Value} {base h : Heap} {ca : Nat → Addr} {fd : FuncData} (X : K.In h) (G : h.Ns mainGlobals mg) (c : He.SaysD fa fn K) (F : FunD K e8.name e8.qual e8.params e8.body e8.scope (e8.dvs K) (e8.kws K) (He.fAd K e8.at_) fd) : FRow U ⟨P, w, K, mg, base, ca⟩ lk 8 "is_part" (He.ga K "is_part") fd P8 := by
  refine ⟨He.glo_ok X G (c.facts (f := .glo "is_part") (by unfold fa; simp)), F.kp, fun dl hd => ?_, _, _, _, _, _, _, _, N8, d8, F, scopeB_ok s8, rfl, rfl, rfl, c8⟩
  have hd : dl ∈ ([[]] : List (List Lit)) := hd
  rcases List.mem_cons.mp hd with rfl | hd
  · exact ⟨[], F.bindsN (ps := P8) fun _ _ _ _ _ _ us hl => match us, hl with | [_, _], _ => rfl, .nil⟩
  exact nomatch hd
theorem s9 : scopeB N9 P9 (defScope (top 16)) = true := by decide +kernel
theorem r9 {P : Program} {w : World} {K : PySem.W.Frag} {mg : Str → Option Value} {base h : Heap} {ca : Nat → Addr} {fd : FuncData} (X : K.In h) (G : h.Ns mainGlobals mg) (c : He.SaysD fa fn K) (F : FunD K e9.name e9.qual e9.params e9.body e9.scope (e9.dvs K) (e9.kws K) (He.fAd K e9.at_) fd) : FRow U ⟨P, w, K, mg, base, ca⟩ lk 9 "is_lot" (He.ga K "is_lot") fd P9 := by
  refine ⟨He.glo_ok X G (c.facts (f := .glo "is_lot") (by unfold fa; simp)), F.kp, fun dl hd => ?_, _, _, _, _, _, _, _, N9, d9, F, scopeB_ok s9, rfl, rfl, rfl, c9⟩
  have hd : dl ∈ ([[]] : List (List Lit)) := hd
  rcases List.mem_cons.mp hd with rfl | hd
  · exact ⟨[], F.bindsN (ps := P9) fun _ _ _ _ _ _ us hl => match us, hl with | [_, _], _ => rfl, .nil⟩
  exact nomatch hd
theorem s10 : scopeB N10 P10 (defScope (top 17)) = true := by decide +kernel
theorem r10 {P : Program} {w : World} {K : PySem.W.Frag} {mg : Str → Option Value} {base h : Heap} {ca : Nat → Addr} {fd : FuncData} (X : K.In h) (G : h.Ns mainGlobals mg) (c : He.SaysD fa fn K) (F : FunD K e10.name e10.qual e10.params e10.body e10.scope (e10.dvs K) (e10.kws K) (He.fAd K e10.at_) fd) : FRow U ⟨P, w, K, mg, base, ca⟩ lk 10 "check_lot" (He.ga K "check_lot") fd P10 := by
  refine ⟨He.glo_ok X G (c.facts (f := .glo "check_lot") (by unfold fa; simp)), F.kp, fun dl hd => ?_, _, _, _, _, _, _, _, N10, d10, F, scopeB_ok s10, rfl, rfl, rfl, c10⟩
  have hd : dl ∈ ([[]] : List (List Lit)) := hd
  rcases List.mem_cons.mp hd with rfl | hd
  · exact ⟨[], F.bindsN (ps := P10) fun _ _ _ _ _ _ us hl => match us, hl with | [_, _], _ => rfl, .nil⟩
  exact nomatch hd
theorem s11 : scopeB N11 P11 (defScope (top 18)) = true := by decide +kernel
theorem r11 {P : Program} {w : World} {K : PySem.W.Frag} {mg : Str → Option Value} {base h : Heap} {ca : Nat → Addr} {fd : FuncData} (X : K.In h) (G : h.Ns mainGlobals mg) (c : He.SaysD fa fn K) (F : FunD K e11.name e11.qual e11.params e11.body e11.scope (e11.dvs K) (e11.kws K) (He.fAd K e11.at_) fd) : FRow U ⟨P, w, K, mg, base, ca⟩ lk 11 "filled" (He.ga K "filled") fd P11 := by
  refine ⟨He.glo_ok X G (c.facts (f := .glo "filled") (by unfold fa; simp)), F.kp, fun dl hd => ?_, _, _, _, _, _, _, _, N11, d11, F, scopeB_ok s11, rfl, rfl, rfl, c11⟩
  have hd : dl ∈ ([[]] : List (List Lit)) := hd
  rcases List.mem_cons.mp hd with rfl | hd
  · exact ⟨[], F.bindsN (ps := P11) fun _ _ _ _ _ _ us hl => match us, hl with | [_], _ => rfl, .nil⟩
  exact nomatch hd
theorem s12 : scopeB N12 P12 (defScope (top 20)) = true := by decide +kernel
theorem r12 {P : Program} {w : World} {K : PySem.W.Frag} {mg : Str → Option Value} {base h : Heap} {ca : Nat → Addr} {fd : FuncData} (X : K.In h) (G : h.Ns mainGlobals mg) (c : He.SaysD fa fn K) (F : FunD K e12.name e12.qual e12.params e12.body e12.scope (e12.dvs K) (e12.kws K) (He.fAd K e12.at_) fd) : FRow U ⟨P, w, K, mg, base, ca⟩ lk 12 "_law_pot" (He.ga K "_law_pot") fd P12 := by
  refine ⟨He.glo_ok X G (c.facts (f := .glo "_law_pot") (by unfold fa; simp)), F.kp, fun dl hd => ?_, _, _, _, _, _, _, _, N12, d12, F, scopeB_ok s12, rfl, rfl, rfl, c12⟩
  have hd : dl ∈ ([[]] : List (List Lit)) := hd
  rcases List.mem_cons.mp hd with rfl | hd
  · exact ⟨[], F.bindsN (ps := P12) fun _ _ _ _ _ _ us hl => match us, hl with | [_, _], _ => rfl, .nil⟩
  exact nomatch hd
theorem s13 : scopeB N13 P13 (defScope (top 21)) = true := by decide +kernel
theorem r13 {P : Program} {w : World} {K : PySem.W.Frag} {mg : Str → Option Value} {base h : Heap} {ca : Nat → Addr} {fd : FuncData} (X : K.In h) (G : h.Ns mainGlobals mg) (c : He.SaysD fa fn K) (F : FunD K e13.name e13.qual e13.params e13.body e13.scope (e13.dvs K) (e13.kws K) (He.fAd K e13.at_) fd) : FRow U ⟨P, w, K, mg, base, ca⟩ lk 13 "_law_take" (He.ga K "_law_take") fd P13 := by
  refine ⟨He.glo_ok X G (c.facts (f := .glo "_law_take") (by unfold fa; simp)), F.kp, fun dl hd => ?_, _, _, _, _, _, _, _, N13, d13, F, scopeB_ok s13, rfl, rfl, rfl, c13⟩
  have hd : dl ∈ ([[]] : List (List Lit)) := hd
  rcases List.mem_cons.mp hd with rfl | hd
  · exact ⟨[], F.bindsN (ps := P13) fun _ _ _ _ _ _ us hl => match us, hl with | [_, _], _ => rfl, .nil⟩
  exact nomatch hd
theorem s14 : scopeB N14 P14 (defScope (top 22)) = true := by decide +kernel
theorem r14 {P : Program} {w : World} {K : PySem.W.Frag} {mg : Str → Option Value} {base h : Heap} {ca : Nat → Addr} {fd : FuncData} (X : K.In h) (G : h.Ns mainGlobals mg) (c : He.SaysD fa fn K) (F : FunD K e14.name e14.qual e14.params e14.body e14.scope (e14.dvs K) (e14.kws K) (He.fAd K e14.at_) fd) : FRow U ⟨P, w, K, mg, base, ca⟩ lk 14 "_law_of" (He.ga K "_law_of") fd P14 := by
  refine ⟨He.glo_ok X G (c.facts (f := .glo "_law_of") (by unfold fa; simp)), F.kp, fun dl hd => ?_, _, _, _, _, _, _, _, N14, d14, F, scopeB_ok s14, rfl, rfl, rfl, c14⟩
  have hd : dl ∈ ([[]] : List (List Lit)) := hd
  rcases List.mem_cons.mp hd with rfl | hd
  · exact ⟨[], F.bindsN (ps := P14) fun _ _ _ _ _ _ us hl => match us, hl with | [_, _], _ => rfl, .nil⟩
  exact nomatch hd
theorem s15 : scopeB N15 P15 (defScope (top 23)) = true := by decide +kernel
theorem r15 {P : Program} {w : World} {K : PySem.W.Frag} {mg : Str → Option Value} {base h : Heap} {ca : Nat → Addr} {fd : FuncData} (X : K.In h) (G : h.Ns mainGlobals mg) (c : He.SaysD fa fn K) (F : FunD K e15.name e15.qual e15.params e15.body e15.scope (e15.dvs K) (e15.kws K) (He.fAd K e15.at_) fd) : FRow U ⟨P, w, K, mg, base, ca⟩ lk 15 "_law_cells" (He.ga K "_law_cells") fd P15 := by
  refine ⟨He.glo_ok X G (c.facts (f := .glo "_law_cells") (by unfold fa; simp)), F.kp, fun dl hd => ?_, _, _, _, _, _, _, _, N15, d15, F, scopeB_ok s15, rfl, rfl, rfl, c15⟩
  have hd : dl ∈ ([[]] : List (List Lit)) := hd
  rcases List.mem_cons.mp hd with rfl | hd
  · exact ⟨[], F.bindsN (ps := P15) fun _ _ _ _ _ _ us hl => match us, hl with | [_, _], _ => rfl, .nil⟩
  exact nomatch hd
theorem s16 : scopeB N16 P16 (defScope (top 24)) = true := by decide +kernel
theorem r16 {P : Program} {w : World} {K : PySem.W.Frag} {mg : Str → Option Value} {base h : Heap} {ca : Nat → Addr} {fd : FuncData} (X : K.In h) (G : h.Ns mainGlobals mg) (c : He.SaysD fa fn K) (F : FunD K e16.name e16.qual e16.params e16.body e16.scope (e16.dvs K) (e16.kws K) (He.fAd K e16.at_) fd) : FRow U ⟨P, w, K, mg, base, ca⟩ lk 16 "_law_number" (He.ga K "_law_number") fd P16 := by
  refine ⟨He.glo_ok X G (c.facts (f := .glo "_law_number") (by unfold fa; simp)), F.kp, fun dl hd => ?_, _, _, _, _, _, _, _, N16, d16, F, scopeB_ok s16, rfl, rfl, rfl, c16⟩
  have hd : dl ∈ ([[]] : List (List Lit)) := hd
  rcases List.mem_cons.mp hd with rfl | hd
  · exact ⟨[], F.bindsN (ps := P16) fun _ _ _ _ _ _ us hl => match us, hl with | [_, _], _ => rfl, .nil⟩
  exact nomatch hd
theorem s17 : scopeB N17 P17 (defScope (top 25)) = true := by decide +kernel
theorem r17 {P : Program} {w : World} {K : PySem.W.Frag} {mg : Str → Option Value} {base h : Heap} {ca : Nat → Addr} {fd : FuncData} (X : K.In h) (G : h.Ns mainGlobals mg) (c : He.SaysD fa fn K) (F : FunD K e17.name e17.qual e17.params e17.body e17.scope (e17.dvs K) (e17.kws K) (He.fAd K e17.at_) fd) : FRow U ⟨P, w, K, mg, base, ca⟩ lk 17 "_law_sum" (He.ga K "_law_sum") fd P17 := by
  refine ⟨He.glo_ok X G (c.facts (f := .glo "_law_sum") (by unfold fa; simp)), F.kp, fun dl hd => ?_, _, _, _, _, _, _, _, N17, d17, F, scopeB_ok s17, rfl, rfl, rfl, c17⟩
  have hd : dl ∈ ([[]] : List (List Lit)) := hd
  rcases List.mem_cons.mp hd with rfl | hd
  · exact ⟨[], F.bindsN (ps := P17) fun _ _ _ _ _ _ us hl => match us, hl with | [_], _ => rfl, .nil⟩
  exact nomatch hd
theorem s18 : scopeB N18 P18 (defScope (top 26)) = true := by decide +kernel
theorem r18 {P : Program} {w : World} {K : PySem.W.Frag} {mg : Str → Option Value} {base h : Heap} {ca : Nat → Addr} {fd : FuncData} (X : K.In h) (G : h.Ns mainGlobals mg) (c : He.SaysD fa fn K) (F : FunD K e18.name e18.qual e18.params e18.body e18.scope (e18.dvs K) (e18.kws K) (He.fAd K e18.at_) fd) : FRow U ⟨P, w, K, mg, base, ca⟩ lk 18 "_law_times" (He.ga K "_law_times") fd P18 := by
  refine ⟨He.glo_ok X G (c.facts (f := .glo "_law_times") (by unfold fa; simp)), F.kp, fun dl hd => ?_, _, _, _, _, _, _, _, N18, d18, F, scopeB_ok s18, rfl, rfl, rfl, c18⟩
  have hd : dl ∈ ([[]] : List (List Lit)) := hd
  rcases List.mem_cons.mp hd with rfl | hd
  · exact ⟨[], F.bindsN (ps := P18) fun _ _ _ _ _ _ us hl => match us, hl with | [_, _], _ => rfl, .nil⟩
  exact nomatch hd
theorem s19 : scopeB N19 P19 (defScope (top 27)) = true := by decide +kernel
theorem r19 {P : Program} {w : World} {K : PySem.W.Frag} {mg : Str → Option Value} {base h : Heap} {ca : Nat → Addr} {fd : FuncData} (X : K.In h) (G : h.Ns mainGlobals mg) (c : He.SaysD fa fn K) (F : FunD K e19.name e19.qual e19.params e19.body e19.scope (e19.dvs K) (e19.kws K) (He.fAd K e19.at_) fd) : FRow U ⟨P, w, K, mg, base, ca⟩ lk 19 "_law_size" (He.ga K "_law_size") fd P19 := by
  refine ⟨He.glo_ok X G (c.facts (f := .glo "_law_size") (by unfold fa; simp)), F.kp, fun dl hd => ?_, _, _, _, _, _, _, _, N19, d19, F, scopeB_ok s19, rfl, rfl, rfl, c19⟩
  have hd : dl ∈ ([[]] : List (List Lit)) := hd
  rcases List.mem_cons.mp hd with rfl | hd
  · exact ⟨[], F.bindsN (ps := P19) fun _ _ _ _ _ _ us hl => match us, hl with | [_, _], _ => rfl, .nil⟩
  exact nomatch hd
theorem s20 : scopeB N20 P20 (defScope (top 28)) = true := by decide +kernel
theorem r20 {P : Program} {w : World} {K : PySem.W.Frag} {mg : Str → Option Value} {base h : Heap} {ca : Nat → Addr} {fd : FuncData} (X : K.In h) (G : h.Ns mainGlobals mg) (c : He.SaysD fa fn K) (F : FunD K e20.name e20.qual e20.params e20.body e20.scope (e20.dvs K) (e20.kws K) (He.fAd K e20.at_) fd) : FRow U ⟨P, w, K, mg, base, ca⟩ lk 20 "_law_lot" (He.ga K "_law_lot") fd P20 := by
  refine ⟨He.glo_ok X G (c.facts (f := .glo "_law_lot") (by unfold fa; simp)), F.kp, fun dl hd => ?_, _, _, _, _, _, _, _, N20, d20, F, scopeB_ok s20, rfl, rfl, rfl, c20⟩
  have hd : dl ∈ ([[]] : List (List Lit)) := hd
  rcases List.mem_cons.mp hd with rfl | hd
  · exact ⟨[], F.bindsN (ps := P20) fun _ _ _ _ _ _ us hl => match us, hl with | [_, _, _], _ => rfl, .nil⟩
  exact nomatch hd
theorem s21 : scopeB N21 P21 (defScope (top 29)) = true := by decide +kernel
theorem r21 {P : Program} {w : World} {K : PySem.W.Frag} {mg : Str → Option Value} {base h : Heap} {ca : Nat → Addr} {fd : FuncData} (X : K.In h) (G : h.Ns mainGlobals mg) (c : He.SaysD fa fn K) (F : FunD K e21.name e21.qual e21.params e21.body e21.scope (e21.dvs K) (e21.kws K) (He.fAd K e21.at_) fd) : FRow U ⟨P, w, K, mg, base, ca⟩ lk 21 "_law_due" (He.ga K "_law_due") fd P21 := by
  refine ⟨He.glo_ok X G (c.facts (f := .glo "_law_due") (by unfold fa; simp)), F.kp, fun dl hd => ?_, _, _, _, _, _, _, _, N21, d21, F, scopeB_ok s21, rfl, rfl, rfl, c21⟩
  have hd : dl ∈ ([[]] : List (List Lit)) := hd
  rcases List.mem_cons.mp hd with rfl | hd
  · exact ⟨[], F.bindsN (ps := P21) fun _ _ _ _ _ _ us hl => match us, hl with | [_], _ => rfl, .nil⟩
  exact nomatch hd
theorem s22 : scopeB N22 P22 (defScope (top 30)) = true := by decide +kernel
theorem r22 {P : Program} {w : World} {K : PySem.W.Frag} {mg : Str → Option Value} {base h : Heap} {ca : Nat → Addr} {fd : FuncData} (X : K.In h) (G : h.Ns mainGlobals mg) (c : He.SaysD fa fn K) (F : FunD K e22.name e22.qual e22.params e22.body e22.scope (e22.dvs K) (e22.kws K) (He.fAd K e22.at_) fd) : FRow U ⟨P, w, K, mg, base, ca⟩ lk 22 "_law_right" (He.ga K "_law_right") fd P22 := by
  refine ⟨He.glo_ok X G (c.facts (f := .glo "_law_right") (by unfold fa; simp)), F.kp, fun dl hd => ?_, _, _, _, _, _, _, _, N22, d22, F, scopeB_ok s22, rfl, rfl, rfl, c22⟩
  have hd : dl ∈ ([[]] : List (List Lit)) := hd
  rcases List.mem_cons.mp hd with rfl | hd
  · exact ⟨[], F.bindsN (ps := P22) fun _ _ _ _ _ _ us hl => match us, hl with | [_], _ => rfl, .nil⟩
  exact nomatch hd
theorem s23 : scopeB N23 P23 (defScope (top 31)) = true := by decide +kernel
theorem r23 {P : Program} {w : World} {K : PySem.W.Frag} {mg : Str → Option Value} {base h : Heap} {ca : Nat → Addr} {fd : FuncData} (X : K.In h) (G : h.Ns mainGlobals mg) (c : He.SaysD fa fn K) (F : FunD K e23.name e23.qual e23.params e23.body e23.scope (e23.dvs K) (e23.kws K) (He.fAd K e23.at_) fd) : FRow U ⟨P, w, K, mg, base, ca⟩ lk 23 "law" (He.ga K "law") fd P23 := by
  refine ⟨He.glo_ok X G (c.facts (f := .glo "law") (by unfold fa; simp)), F.kp, fun dl hd => ?_, _, _, _, _, _, _, _, N23, d23, F, scopeB_ok s23, rfl, rfl, rfl, c23⟩
  have hd : dl ∈ ([[]] : List (List Lit)) := hd
  rcases List.mem_cons.mp hd with rfl | hd
  · exact ⟨[], F.bindsN (ps := P23) fun _ _ _ _ _ _ us hl => match us, hl with | [_], _ => rfl, .nil⟩
  exact nomatch hd
theorem hyp {P : Program} {w : World} {K : PySem.W.Frag} {mg : Str → Option Value} {base h : Heap} {ca : Nat → Addr} (X : K.In h) (G : h.Ns mainGlobals mg) (c : He.SaysD fa fn K) (x : ex K = true) : ∀ k, Hyp U ⟨P, w, K, mg, base, ca⟩ lk k := by
  refine hyp_all (fun f nm hf => ?_) (fun x l hl => ?_) (fun x hx => ?_) (fun x ns hn => ?_)
  · have hm : (f, nm) ∈ lfn := lookup_mem hf
    unfold lfn at hm
    simp only [List.mem_cons, Prod.mk.injEq, List.not_mem_nil, or_false] at hm
    rcases hm with ⟨rfl, rfl⟩ | ⟨rfl, rfl⟩ | ⟨rfl, rfl⟩ | ⟨rfl, rfl⟩ | ⟨rfl, rfl⟩ | ⟨rfl, rfl⟩ | ⟨rfl, rfl⟩ | ⟨rfl, rfl⟩ | ⟨rfl, rfl⟩ | ⟨rfl, rfl⟩ | ⟨rfl, rfl⟩ | ⟨rfl, rfl⟩ | ⟨rfl, rfl⟩ | ⟨rfl, rfl⟩ | ⟨rfl, rfl⟩ | ⟨rfl, rfl⟩ | ⟨rfl, rfl⟩ | ⟨rfl, rfl⟩ | ⟨rfl, rfl⟩ | ⟨rfl, rfl⟩ | ⟨rfl, rfl⟩ | ⟨rfl, rfl⟩ | ⟨rfl, rfl⟩ | ⟨rfl, rfl⟩
    · obtain ⟨fd, F⟩ := c.defs (d := e0) (by unfold fn; simp); exact ⟨_, fd, _, r0 X G c F⟩
    · obtain ⟨fd, F⟩ := c.defs (d := e1) (by unfold fn; simp); exact ⟨_, fd, _, r1 X G c F⟩
    · obtain ⟨fd, F⟩ := c.defs (d := e2) (by unfold fn; simp); exact ⟨_, fd, _, r2 X G c F⟩
    · obtain ⟨fd, F⟩ := c.defs (d := e3) (by unfold fn; simp); exact ⟨_, fd, _, r3 X G c F⟩
    · obtain ⟨fd, F⟩ := c.defs (d := e4) (by unfold fn; simp); exact ⟨_, fd, _, r4 X G c F⟩
    · obtain ⟨fd, F⟩ := c.defs (d := e5) (by unfold fn; simp); exact ⟨_, fd, _, r5 X G c F⟩
    · obtain ⟨fd, F⟩ := c.defs (d := e6) (by unfold fn; simp); exact ⟨_, fd, _, r6 X G c F⟩
    · obtain ⟨fd, F⟩ := c.defs (d := e7) (by unfold fn; simp); exact ⟨_, fd, _, r7 X G c F⟩
    · obtain ⟨fd, F⟩ := c.defs (d := e8) (by unfold fn; simp); exact ⟨_, fd, _, r8 X G c F⟩
    · obtain ⟨fd, F⟩ := c.defs (d := e9) (by unfold fn; simp); exact ⟨_, fd, _, r9 X G c F⟩
    · obtain ⟨fd, F⟩ := c.defs (d := e10) (by unfold fn; simp); exact ⟨_, fd, _, r10 X G c F⟩
    · obtain ⟨fd, F⟩ := c.defs (d := e11) (by unfold fn; simp); exact ⟨_, fd, _, r11 X G c F⟩
    · obtain ⟨fd, F⟩ := c.defs (d := e12) (by unfold fn; simp); exact ⟨_, fd, _, r12 X G c F⟩
    · obtain ⟨fd, F⟩ := c.defs (d := e13) (by unfold fn; simp); exact ⟨_, fd, _, r13 X G c F⟩
    · obtain ⟨fd, F⟩ := c.defs (d := e14) (by unfold fn; simp); exact ⟨_, fd, _, r14 X G c F⟩
    · obtain ⟨fd, F⟩ := c.defs (d := e15) (by unfold fn; simp); exact ⟨_, fd, _, r15 X G c F⟩
    · obtain ⟨fd, F⟩ := c.defs (d := e16) (by unfold fn; simp); exact ⟨_, fd, _, r16 X G c F⟩
    · obtain ⟨fd, F⟩ := c.defs (d := e17) (by unfold fn; simp); exact ⟨_, fd, _, r17 X G c F⟩
    · obtain ⟨fd, F⟩ := c.defs (d := e18) (by unfold fn; simp); exact ⟨_, fd, _, r18 X G c F⟩
    · obtain ⟨fd, F⟩ := c.defs (d := e19) (by unfold fn; simp); exact ⟨_, fd, _, r19 X G c F⟩
    · obtain ⟨fd, F⟩ := c.defs (d := e20) (by unfold fn; simp); exact ⟨_, fd, _, r20 X G c F⟩
    · obtain ⟨fd, F⟩ := c.defs (d := e21) (by unfold fn; simp); exact ⟨_, fd, _, r21 X G c F⟩
    · obtain ⟨fd, F⟩ := c.defs (d := e22) (by unfold fn; simp); exact ⟨_, fd, _, r22 X G c F⟩
    · obtain ⟨fd, F⟩ := c.defs (d := e23) (by unfold fn; simp); exact ⟨_, fd, _, r23 X G c F⟩
  · have hm : (x, l) ∈ lgl := lookup_mem hl
    unfold lgl at hm
    simp only [List.mem_cons, Prod.mk.injEq, List.not_mem_nil, or_false] at hm
    obtain ⟨rfl, rfl⟩ := hm
    · obtain ⟨t, e⟩ := He.int_ok X G (c.facts (f := .int "PAIR" 2) (by unfold fa; simp)); exact ⟨_, e, t, rfl⟩
  · refine He.free_ok X G (c.facts (f := .free x) ?_)
    unfold biNames at hx
    simp only [List.mem_cons, List.not_mem_nil, or_false] at hx
    unfold fa
    rcases hx with rfl | rfl | rfl | rfl | rfl | rfl | rfl | rfl | rfl | rfl | rfl | rfl | rfl | rfl | rfl | rfl | rfl | rfl <;> simp
  · have hm : (x, ns) ∈ lgt := lookup_mem hn
    unfold lgt at hm
    simp only [List.mem_cons, Prod.mk.injEq, List.not_mem_nil, or_false] at hm
    obtain ⟨rfl, rfl⟩ := hm
    exact ⟨He.ga K "NOUGHT", He.glo_ok X G (c.facts (f := .glo "NOUGHT") (by unfold fa; simp)), fun H => He.tupB_ok x H⟩
def cls (n : Nat) : Str := ([] : List Str).getD n ""
end LT
set_option Elab.async false
set_option linter.all false
set_option maxRecDepth 100000
set_option maxHeartbeats 1000000
namespace LT
open PySem Pyi
/-- Euclid's loop -/
theorem gcd_loop {C : Pyi.Env → Hs → Out Bool} {G : Pyi.Env → Hs → OutS} {h : Hs} {e : Nat → Nat → Pyi.Env} (hC : ∀ a b, C (e a b) h = .ok (decide (0 < b)) h) (hG : ∀ a b, 0 < b → G (e a b) h = .ok .nxt (e b (a % b)) h) :
    ∀ (n a b : Nat), b < n → loopW C G n (e a b) h = .ok .nxt (e (Nat.gcd a b) 0) h
  | 0, _, _, hb => absurd hb (Nat.not_lt_zero _)
  | n + 1, a, b, hb => by
    rw [lw_s, hC]
    by_cases h0 : b = 0
    · subst h0
      simp
    · have hp : 0 < b := Nat.pos_of_ne_zero h0
      have ih := gcd_loop hC hG n b (a % b) (by have := Nat.mod_lt a hp; omega)
      simp [hp, hG a b hp, ih]
      rw [Nat.gcd_comm b (a % b), ← Nat.gcd_rec, Nat.gcd_comm]
theorem m_common {k : Nat} {h : Hs} (a b : Nat) (hb : b < laps) : callD U (k + 1) 2 [.int a, .int b] h = .ok (.int (Nat.gcd a b : Nat)) h := by
  rw [call_eq (d := d2) rfl rfl]
  have L := gcd_loop (h := h) (C := condW (callD U k) (.cmp .gt (.var 1) (.lit (.int 0)))) (G := turnW (callD U k) [.par [0, 1] [.var 1, .bin .mod (.var 0) (.var 1)]]) (e := fun a b => [some (.v (.int a)), some (.v (.int b))])
    (fun a b => by simp [condW_eq]) (fun a b hp => by
      have hp' : (0 : Int) < (b : Int) := by omega
      simp [turnW_eq, b_mod hp']) laps a b hb
  simp [d2, start_eq, L]
end LT
set_option Elab.async false
set_option linter.all false
set_option maxRecDepth 100000
set_option maxHeartbeats 4000000
namespace LT
open PySem Pyi
/-! ### the pot -/
/-- the pot at r: no more than c were taken by reckoning -/
def Pot (h : Hs) (r c : Nat) : Prop := ∃ own small cnt : Int, h[r]? = some (.lst [.int own, .int small, .int cnt]) ∧ 0 ≤ own ∧ (0 ≤ small ∧ small < 2 ^ 61) ∧ 0 ≤ cnt ∧ cnt ≤ c
theorem sm_of {i : Int} (h : i.natAbs < 2 ^ 4000) : sm i = true := decide_eq_true (Nat.lt_of_lt_of_le h (Nat.pow_le_pow_right (by decide) (by decide)))
/-- small numbers: below 2 ^ n -/
def Sm (n : Nat) (i : Int) : Prop := i.natAbs < 2 ^ n
theorem Sm.sm {n : Nat} {i : Int} (h : Sm n i) (hn : n ≤ 4000) : sm i = true := sm_of (Nat.lt_of_lt_of_le h (Nat.pow_le_pow_right (by decide) hn))
theorem Sm.mul {m n : Nat} {i j : Int} (h : Sm m i) (k : Sm n j) : Sm (m + n) (i * j) := by
  unfold Sm at *
  rw [Int.natAbs_mul, Nat.pow_add]
  rcases Nat.eq_zero_or_pos j.natAbs with z | z
  · rw [z, Nat.mul_zero]
    exact Nat.mul_pos (Nat.pow_pos (by decide)) (Nat.pow_pos (by decide))
  · exact Nat.lt_of_le_of_lt (Nat.mul_le_mul_right _ (Nat.le_of_lt h)) (Nat.mul_lt_mul_of_pos_left k (Nat.lt_of_le_of_lt (Nat.zero_le _) h))
theorem Sm.mono {m n : Nat} {i : Int} (h : Sm m i) (k : m ≤ n) : Sm n i := Nat.lt_of_lt_of_le h (Nat.pow_le_pow_right (by decide) k)
theorem Sm.add {n : Nat} {i j : Int} (h : Sm n i) (k : Sm n j) : Sm (n + 1) (i + j) := by
  unfold Sm at *
  rw [Nat.pow_succ]
  have := Int.natAbs_add_le i j
  omega
theorem Sm.emod {n : Nat} {i j : Int} (k : Sm n j) (hj : 0 < j) : Sm n (i % j) := by
  unfold Sm at *
  have h1 := Int.emod_nonneg i (Int.ne_of_gt hj)
  have h2 := Int.emod_lt_of_pos i hj
  omega
theorem Sm.nat {n : Nat} {i : Int} (h0 : 0 ≤ i) (h : i < 2 ^ n) : Sm n i := by
  unfold Sm
  have : (i.natAbs : Int) = i := Int.natAbs_of_nonneg h0
  have e : ((2 ^ n : Nat) : Int) = 2 ^ n := by rw [Int.natCast_pow]; rfl
  omega
theorem get_r {h : Hs} {r : Nat} {vs : List Val} (e : h[r]? = some (.lst vs)) (i : Int) : getH h (.ref r) (.int i) = atI vs i := by
  show (match h[r]? with
    | some (.lst vs) => atI vs i
    | _ => none) = _
  rw [e]
theorem set_r {h : Hs} {r : Nat} {vs : List Val} (e : h[r]? = some (.lst vs)) (i : Int) (v : Val) : setH h (.ref r) (.int i) v = (ixN vs.length i).map fun j => h.set r (.lst (vs.set j v)) := by
  show (match h[r]? with
    | some (.lst vs) => (ixN vs.length i).map fun j => h.set r (.lst (vs.set j v))
    | _ => none) = _
  rw [e]
theorem set_get {h : Hs} {r : Nat} {o o' : MObj} (e : h[r]? = some o) : (h.set r o')[r]? = some o' := List.getElem?_set_self (List.getElem?_eq_some_iff.mp e).1
theorem primes_at (i : Int) (h0 : 0 ≤ i) (h5 : i < 5) : ∃ p : Int, atI [Val.int 2147483647, Val.int 2147483629, Val.int 2147483587, Val.int 2147483579, Val.int 2147483563] i = some (.int p) ∧ 0 < p ∧ p < 2 ^ 31 := by
  have : i = 0 ∨ i = 1 ∨ i = 2 ∨ i = 3 ∨ i = 4 := by omega
  rcases this with rfl | rfl | rfl | rfl | rfl
  · exact ⟨2147483647, rfl, by decide, by decide⟩
  · exact ⟨2147483629, rfl, by decide, by decide⟩
  · exact ⟨2147483587, rfl, by decide, by decide⟩
  · exact ⟨2147483579, rfl, by decide, by decide⟩
  · exact ⟨2147483563, rfl, by decide, by decide⟩
theorem m_take {k : Nat} {h : Hs} {r c : Nat} (P : Pot h r c) (hc : c < 2 ^ 300) (u : Nat) (h0 : 0 < u) (hu : u < 2 ^ 2000) :
    ∃ (d : Nat) (h' : Hs), callD U (k + 1) 13 [.ref r, .int u] h = .ok (.int d) h' ∧ d < u ∧ Pot h' r (c + 1) ∧ h'.length = h.length := by
  obtain ⟨own, small, cnt, e, p1, ⟨p2, p3⟩, p4, p5⟩ := P
  have hu0 : (0 : Int) < (u : Int) := by omega
  have hu9 : (u : Int) < 2 ^ 9000 := by
    have : u < 2 ^ 9000 := Nat.lt_of_lt_of_le hu (Nat.pow_le_pow_right (by decide) (by decide))
    have e : ((2 ^ 9000 : Nat) : Int) = 2 ^ 9000 := by rw [Int.natCast_pow]; rfl
    omega
  rw [call_eq (d := d13) rfl rfl]
  by_cases ho : 0 < own
  · have m0 := Int.emod_nonneg own (Int.ne_of_gt hu0)
    have m1 := Int.emod_lt_of_pos own hu0
    have md : ((own % (u : Int)).toNat : Int) = own % (u : Int) := Int.toNat_of_nonneg m0
    refine ⟨(own % (u : Int)).toNat, h.set r (.lst [.int (own / (u : Int)), .int small, .int cnt]), ?_, by omega, ⟨own / (u : Int), small, cnt, set_get e, Int.ediv_nonneg p1 (by omega), ⟨p2, p3⟩, p4, by omega⟩, List.length_set ..⟩
    have i3 : ixN 3 0 = some 0 := rfl
    simp [d13, start_eq, get_r e, ho, b_mod hu0, b_fdiv hu0 hu9, set_r e, i3, md]
  · have eo : own = 0 := by omega
    subst eo
    have i3 : ixN 3 2 = some 2 := rfl
    have e2 : (h.set r (.lst [.int 0, .int small, .int (cnt + 1)]))[r]? = some (.lst [.int 0, .int small, .int (cnt + 1)]) := set_get e
    have q0 : 0 ≤ (cnt + 1) % 5 := Int.emod_nonneg _ (by decide)
    have q5 : (cnt + 1) % 5 < 5 := Int.emod_lt_of_pos _ (by decide)
    obtain ⟨p, ep, p0, p31⟩ := primes_at _ q0 q5
    have sp : Sm 31 p := Sm.nat (Int.le_of_lt p0) p31
    have hcc : cnt + 1 < 2 ^ 301 := by
      have e : ((2 ^ 300 : Nat) : Int) = 2 ^ 300 := by rw [Int.natCast_pow]; rfl
      have e2 : (2 ^ 301 : Int) = 2 * 2 ^ 300 := by decide
      have : (1 : Int) ≤ 2 ^ 300 := by decide
      omega
    have sc : Sm 301 (cnt + 1) := Sm.nat (by omega) hcc
    have ss : Sm 61 small := Sm.nat p2 p3
    have s1 : Sm 17 98897 := by unfold Sm; decide
    have s2 := s1.mul sc
    have s3 := s2.mul sc
    have s4 : Sm 620 (small + 98897 * (cnt + 1) * (cnt + 1)) := Sm.add (n := 619) (ss.mono (by decide)) s3
    have s5 : Sm 621 (small + 98897 * (cnt + 1) * (cnt + 1) + 101) := Sm.add (n := 620) s4 (by unfold Sm; decide)
    have pw : (small + 98897 * (cnt + 1) * (cnt + 1) + 101).natAbs < 2 ^ 100000 := Nat.lt_of_lt_of_le s5 (Nat.pow_le_pow_right (by decide) (by decide))
    generalize hM : (small + 98897 * (cnt + 1) * (cnt + 1) + 101) = M at s5 pw
    have s6 : Sm 31 (M ^ 3 % p) := sp.emod p0
    generalize hT : M ^ 3 % p = T at s6
    have s7 : Sm 14 (T % 10531) := Sm.emod (by unfold Sm; decide) (by decide)
    have s8 := Sm.mul (m := 8) (i := 197) (by unfold Sm; decide) sc
    have s9 : Sm 310 (T % 10531 + 197 * (cnt + 1)) := Sm.add (n := 309) (s7.mono (by decide)) s8
    generalize hW : T * (T % 10531 + 197 * (cnt + 1)) = W
    have wm : (0 : Int) ≤ W % 2305843009213693907 / 179 % (u : Int) := Int.emod_nonneg _ (Int.ne_of_gt hu0)
    have wl := Int.emod_lt_of_pos (W % 2305843009213693907 / 179) hu0
    have wd := Int.toNat_of_nonneg wm
    refine ⟨(W % 2305843009213693907 / 179 % (u : Int)).toNat, h.set r (.lst [.int 0, .int small, .int (cnt + 1)]), ?_, by omega, ⟨0, small, cnt + 1, e2, by decide, ⟨p2, p3⟩, by omega, by omega⟩, List.length_set ..⟩
    have i179 : (179 : Int) < 2 ^ 9000 := by decide +kernel
    have pw3 : binop .pow (.int M) (.int 3) = some (.int (M ^ 3)) := b_pow (by decide) (by decide) pw
    simp [d13, start_eq, get_r e, get_r e2, set_r e, i3, b_mod, ep, b_mul (s1.sm (by decide)) (sc.sm (by decide)), b_mul (s2.sm (by decide)) (sc.sm (by decide)), hM, pw3, b_mod p0, hT,
      b_mul (Sm.sm (n := 8) (i := 197) (by unfold Sm; decide) (by decide)) (sc.sm (by decide)), b_mul (s6.sm (by decide)) (s9.sm (by decide)), hW, b_fdiv (i := W % 2305843009213693907) (j := 179) (by decide) i179, b_mod hu0, wd]
theorem m_of {k : Nat} {h : Hs} {r c : Nat} (P : Pot h r c) (hc : c < 2 ^ 300) (vs : List Val) (h0 : 0 < vs.length) (hu : vs.length < 2 ^ 2000) :
    ∃ (d : Nat) (v : Val) (h' : Hs), callD U (k + 2) 14 [.ref r, .lst vs] h = .ok v h' ∧ vs[d]? = some v ∧ Pot h' r (c + 1) ∧ h'.length = h.length := by
  obtain ⟨d, h', e, hd, P', hl⟩ := m_take (k := k) P hc vs.length h0 hu
  refine ⟨d, vs[d], h', ?_, List.getElem?_eq_getElem hd, P', hl⟩
  rw [call_eq (d := d14) rfl rfl]
  simp [d14, start_eq, e, at_n hd, List.getElem?_eq_getElem hd]
end LT
set_option Elab.async false
set_option linter.all false
set_option maxRecDepth 100000
set_option maxHeartbeats 4000000
namespace LT
open PySem Pyi
/-! ### numbers -/
/-- a number as a pair in least terms -/
def rv (q : Rat) : Val := .tup [.int q.num, .int q.den]
theorem lap_big {b : Nat} (h : b < 2 ^ 1300) : b < laps := Nat.lt_of_lt_of_le h (by decide +kernel)
theorem den9 {g : Nat} (h : g < 2 ^ 1300) : (g : Int) < 2 ^ 9000 := by
  have h2 : g < 2 ^ 9000 := Nat.lt_of_lt_of_le h (Nat.pow_le_pow_right (by decide) (by decide))
  have e : ((2 ^ 9000 : Nat) : Int) = 2 ^ 9000 := by rw [Int.natCast_pow]; rfl
  omega
theorem rv_mk (o u : Nat) (hu : 0 < u) : rv (mkRat o u) = .tup [.int ((o : Int) / ((Nat.gcd o u : Nat) : Int)), .int ((u : Int) / ((Nat.gcd o u : Nat) : Int))] := by
  unfold rv
  rw [Rat.num_mkRat, Rat.den_mkRat, if_neg (Nat.ne_of_gt hu), if_neg (Nat.ne_of_gt hu), Int.natAbs_natCast, Nat.gcd_comm u o, Int.natCast_ediv]
theorem m_number {k : Nat} {h : Hs} (o : Int) (u : Nat) (ho : 0 ≤ o) (hu : 0 < u) (hb : u < 2 ^ 1300) : callD U (k + 2) 3 [.int o, .int u] h = .ok (rv (mkRat o u)) h := by
  obtain ⟨o, rfl⟩ := Int.eq_ofNat_of_zero_le ho
  rw [call_eq (d := d3) rfl rfl, rv_mk o u hu]
  have gp : 0 < Nat.gcd o u := Nat.gcd_pos_of_pos_right _ hu
  have g0 : (0 : Int) < ((Nat.gcd o u : Nat) : Int) := by omega
  have g9 := den9 (Nat.lt_of_le_of_lt (Nat.le_of_dvd hu (Nat.gcd_dvd_right o u)) hb)
  simp [d3, start_eq, m_common o u (lap_big hb), b_fdiv g0 g9]
theorem m_lnumber {k : Nat} {h : Hs} (o : Int) (u : Nat) (ho : 0 ≤ o) (hu : 0 < u) (hb : u < 2 ^ 1300) : callD U (k + 1) 16 [.int o, .int u] h = .ok (rv (mkRat o u)) h := by
  obtain ⟨o, rfl⟩ := Int.eq_ofNat_of_zero_le ho
  rw [call_eq (d := d16) rfl rfl, rv_mk o u hu]
  have gp : 0 < Nat.gcd o u := Nat.gcd_pos_of_pos_right _ hu
  have g0 : (0 : Int) < ((Nat.gcd o u : Nat) : Int) := by omega
  have g9 := den9 (Nat.lt_of_le_of_lt (Nat.le_of_dvd hu (Nat.gcd_dvd_right o u)) hb)
  have L := gcd_loop (h := h) (C := condW (callD U k) (.cmp .gt (.var 3) (.lit (.int 0)))) (G := turnW (callD U k) [.par [2, 3] [.var 3, .bin .mod (.var 2) (.var 3)]]) (e := fun a b => [some (.v (.int o)), some (.v (.int u)), some (.v (.int a)), some (.v (.int b))])
    (fun a b => by simp [condW_eq]) (fun a b hp => by
      have hp' : (0 : Int) < (b : Int) := by omega
      simp [turnW_eq, b_mod hp']) laps o u (lap_big hb)
  simp [d16, start_eq, L, b_fdiv g0 g9]
def rsum : List Rat → Rat
  | [] => 0
  | q :: qs => q + rsum qs
/-- a number that is not below nought, its parts below 2 ^ n -/
structure Q (n : Nat) (q : Rat) : Prop where
  nn : 0 ≤ q.num
  nu : q.num < 2 ^ n
  de : q.den < 2 ^ n
theorem pw (n : Nat) : ((2 ^ n : Nat) : Int) = 2 ^ n := by rw [Int.natCast_pow]; rfl
theorem Q.mono {m n : Nat} {q : Rat} (h : Q m q) (l : m ≤ n) : Q n q := by
  have e := Nat.pow_le_pow_right (n := 2) (by decide) l
  have e2 : ((2 ^ m : Nat) : Int) ≤ ((2 ^ n : Nat) : Int) := by omega
  rw [pw, pw] at e2
  exact ⟨h.nn, Int.lt_of_lt_of_le h.nu e2, Nat.lt_of_lt_of_le h.de e⟩
theorem Q.sn {n : Nat} {q : Rat} (h : Q n q) : Sm n q.num := Sm.nat h.nn h.nu
theorem Q.sd {n : Nat} {q : Rat} (h : Q n q) : Sm n (q.den : Int) := by
  unfold Sm
  rw [Int.natAbs_natCast]
  exact h.de
theorem add_mk (p q : Rat) : mkRat (p.num * q.den + q.num * p.den) (p.den * q.den) = p + q := by
  rw [← Rat.mkRat_add_mkRat _ _ p.den_nz q.den_nz, Rat.mkRat_self, Rat.mkRat_self]
theorem mk_Q {n : Nat} {o : Int} {u : Nat} (h0 : 0 ≤ o) (h1 : o < 2 ^ n) (hu : 0 < u) (h2 : u < 2 ^ n) : Q n (mkRat o u) := by
  obtain ⟨o, rfl⟩ := Int.eq_ofNat_of_zero_le h0
  have e : (mkRat o u).num = ((o / Nat.gcd u o : Nat) : Int) := by rw [Rat.num_mkRat, if_neg (Nat.ne_of_gt hu), Int.natAbs_natCast, Int.natCast_ediv]
  have e2 : (mkRat o u).den = u / Nat.gcd u o := by rw [Rat.den_mkRat, if_neg (Nat.ne_of_gt hu), Int.natAbs_natCast]
  have l1 := Nat.div_le_self o (Nat.gcd u o)
  refine ⟨by rw [e]; exact Int.natCast_nonneg _, by rw [e]; exact Int.lt_of_le_of_lt (Int.ofNat_le.mpr l1) h1, by rw [e2]; exact Nat.lt_of_le_of_lt (Nat.div_le_self _ _) h2⟩
theorem Q.add {m n : Nat} {p q : Rat} (hp : Q m p) (hq : Q n q) : Q (m + n + 1) (p + q) := by
  rw [← add_mk]
  have s1 := hp.sn.mul hq.sd
  have s2 := hq.sn.mul hp.sd
  have s3 := s1.add (by rw [Nat.add_comm m n]; exact s2)
  have n1 := Int.mul_nonneg hp.nn (Int.natCast_nonneg q.den)
  have n2 := Int.mul_nonneg hq.nn (Int.natCast_nonneg p.den)
  have s4 := hp.sd.mul hq.sd
  refine mk_Q (by omega) ?_ (Nat.mul_pos p.den_pos q.den_pos) ?_
  · unfold Sm at s3
    rw [← pw]
    omega
  · unfold Sm at s4
    rw [← Int.natCast_mul, Int.natAbs_natCast] at s4
    exact Nat.lt_of_lt_of_le s4 (Nat.pow_le_pow_right (by decide) (by omega))
/-- the loop of the sum -/
theorem sum_loop {cf : Nat → List Val → Hs → Out Val} {f : Nat} {h : Hs} {a : Option Slot} {B : Nat} (hcf : ∀ (o : Int) (u : Nat), 0 ≤ o → 0 < u → u < 2 ^ 1300 → cf f [.int o, .int u] h = .ok (rv (mkRat o u)) h) (hB : B ≤ 1300) :
    ∀ (qs : List Rat) (q0 : Rat) (e : Nat) (s3 s4 : Option Slot), (∀ q ∈ qs, Q B q) → Q e q0 → e + qs.length * (B + 1) ≤ 1300 →
    ∃ s3' s4', loopF (turnF cf (.t [.v 3, .v 4]) [.tset (.t [.v 1, .v 2]) (.call f [.bin .add (.bin .mul (.var 1) (.var 4)) (.bin .mul (.var 3) (.var 2)), .bin .mul (.var 2) (.var 4)] [])]) (qs.map rv)
      [a, some (.v (.int q0.num)), some (.v (.int q0.den)), s3, s4] h = .ok .nxt [a, some (.v (.int (q0 + rsum qs).num)), some (.v (.int (q0 + rsum qs).den)), s3', s4'] h
  | [], q0, e, s3, s4, _, _, _ => ⟨s3, s4, by rw [rsum, Rat.add_zero]; rfl⟩
  | q :: qs, q0, e, s3, s4, hq, h0, hl => by
    have q1 := hq q List.mem_cons_self
    rw [List.length_cons, Nat.add_mul, Nat.one_mul] at hl
    have ih := sum_loop (a := a) hcf hB qs (q0 + q) (e + B + 1) (some (.v (.int q.num))) (some (.v (.int q.den))) (fun y hy => hq y (List.mem_cons_of_mem _ hy)) (h0.add q1) (by omega)
    obtain ⟨t3, t4, ih⟩ := ih
    refine ⟨t3, t4, ?_⟩
    have n1 := Int.mul_nonneg h0.nn (Int.natCast_nonneg q.den)
    have n2 := Int.mul_nonneg q1.nn (Int.natCast_nonneg q0.den)
    have s4 := h0.sd.mul q1.sd
    have du : q0.den * q.den < 2 ^ 1300 := by
      unfold Sm at s4
      rw [← Int.natCast_mul, Int.natAbs_natCast] at s4
      exact Nat.lt_of_lt_of_le s4 (Nat.pow_le_pow_right (by decide) (by omega))
    have c1 := hcf (q0.num * q.den + q.num * q0.den) (q0.den * q.den) (by omega) (Nat.mul_pos q0.den_pos q.den_pos) du
    rw [add_mk, Int.natCast_mul] at c1
    rw [List.map_cons, lf_cons, rsum, ← Rat.add_assoc, ← ih]
    simp [turnF_eq, rv, b_mul (h0.sn.sm (by omega)) (q1.sd.sm (by omega)), b_mul (q1.sn.sm (by omega)) (h0.sd.sm (by omega)), b_mul (h0.sd.sm (by omega)) (q1.sd.sm (by omega)), c1]
theorem zero_Q : Q 1 0 := ⟨by decide, by decide, by decide⟩
theorem m_sum_of {k : Nat} {h : Hs} {B : Nat} (qs : List Rat) (hq : ∀ q ∈ qs, Q B q) (hl : 1 + qs.length * (B + 1) ≤ 1300) (hB : B ≤ 1300) : callD U (k + 3) 7 [.lst (qs.map rv)] h = .ok (rv (rsum qs)) h := by
  rw [call_eq (d := d7) rfl rfl]
  obtain ⟨s3, s4, e⟩ := sum_loop (cf := callD U (k + 2)) (f := 3) (h := h) (a := some (.v (.lst (qs.map rv)))) (fun o u a b c => m_number o u a b c) hB qs 0 1 none none hq zero_Q hl
  rw [Rat.zero_add] at e
  have e' : ((0 : Rat).num) = 0 := rfl
  have e2 : (((0 : Rat).den : Nat) : Int) = 1 := rfl
  rw [e', e2] at e
  simp [d7, start_eq, e, rv]
theorem m_lsum {k : Nat} {h : Hs} {B : Nat} (qs : List Rat) (hq : ∀ q ∈ qs, Q B q) (hl : 1 + qs.length * (B + 1) ≤ 1300) (hB : B ≤ 1300) : callD U (k + 2) 17 [.lst (qs.map rv)] h = .ok (rv (rsum qs)) h := by
  rw [call_eq (d := d17) rfl rfl]
  obtain ⟨s3, s4, e⟩ := sum_loop (cf := callD U (k + 1)) (f := 16) (h := h) (a := some (.v (.lst (qs.map rv)))) (fun o u a b c => m_lnumber o u a b c) hB qs 0 1 none none hq zero_Q hl
  rw [Rat.zero_add] at e
  have e' : ((0 : Rat).num) = 0 := rfl
  have e2 : (((0 : Rat).den : Nat) : Int) = 1 := rfl
  rw [e', e2] at e
  simp [d17, start_eq, e, rv]
end LT
set_option Elab.async false
set_option linter.all false
set_option maxRecDepth 100000
set_option maxHeartbeats 4000000
namespace LT
open PySem Pyi
/-! ### lots -/
abbrev Thing := Rat × Nat
def itV (p : Thing) : Val := .tup [rv p.1, .int p.2]
def lotV (l : List Thing) : Val := .tup (l.map itV)
structure GI (B : Nat) (p : Thing) : Prop where
  q : Q B p.1
  pos : 0 < p.1.num
  m0 : 0 < p.2
  mb : p.2 < 2 ^ B
/-- so many of a size -/
def tm (p : Thing) : Rat := mkRat (p.1.num * p.2) p.1.den
theorem tm_eq (p : Thing) : tm p = p.1 * mkRat p.2 1 := by
  unfold tm
  have e := Rat.mkRat_mul_mkRat p.1.num (p.2 : Int) p.1.den 1
  rw [Rat.mkRat_self, Nat.mul_one] at e
  exact e.symm
theorem GI.sm_m {B : Nat} {p : Thing} (g : GI B p) : Sm B (p.2 : Int) := by
  unfold Sm
  rw [Int.natAbs_natCast]
  exact g.mb
theorem tm_Q {B : Nat} {p : Thing} (g : GI B p) : Q (B + B) (tm p) := by
  have s := g.q.sn.mul g.sm_m
  have n := Int.mul_nonneg g.q.nn (Int.natCast_nonneg p.2)
  refine mk_Q n ?_ p.1.den_pos (Nat.lt_of_lt_of_le g.q.de (Nat.pow_le_pow_right (by decide) (by omega)))
  unfold Sm at s
  rw [← pw]
  omega
theorem mapF_map {α : Type} {g : Val → Hs → Out (Option Val)} {i f : α → Val} {h : Hs} : ∀ (xs : List α), (∀ x ∈ xs, g (i x) h = .ok (some (f x)) h) → mapF g (xs.map i) h = .ok (xs.map f) h
  | [], _ => rfl
  | x :: xs, q => by
    rw [List.map_cons, mf_cons, q x List.mem_cons_self]
    show (mapF g (xs.map i) h).bind _ = _
    rw [mapF_map xs fun y hy => q y (List.mem_cons_of_mem _ hy)]
    rfl
theorem m_isint {k : Nat} {h : Hs} {i lo : Int} : callD U (k + 1) 0 [.int i, .int lo, .non] h = .ok (.bl (decide (lo ≤ i))) h := by
  rw [call_eq (d := d0) rfl rfl]
  by_cases hl : lo ≤ i <;> simp [d0, start_eq, hl]
theorem m_istup0 {k : Nat} {h : Hs} {vs : List Val} : callD U (k + 1) 1 [.tup vs, .int 0, .non] h = .ok (.bl true) h := by
  rw [call_eq (d := d1) rfl rfl]
  simp [d1, start_eq]
theorem m_istup2 {k : Nat} {h : Hs} {a b : Val} : callD U (k + 1) 1 [.tup [a, b], .int 2, .int 2] h = .ok (.bl true) h := by
  rw [call_eq (d := d1) rfl rfl]
  simp [d1, start_eq]
theorem m_isnum {k : Nat} {h : Hs} {q : Rat} {n : Nat} (hq : Q n q) (hn : n ≤ 1300) : callD U (k + 2) 4 [rv q] h = .ok (.bl true) h := by
  rw [call_eq (d := d4) rfl rfl]
  have dn : q.den < laps := lap_big (Nat.lt_of_lt_of_le hq.de (Nat.pow_le_pow_right (by decide) hn))
  have ha : ((q.num.natAbs : Nat) : Int) = q.num := Int.natAbs_of_nonneg hq.nn
  have cm := m_common (k := k) (h := h) q.num.natAbs q.den dn
  have g1 : Nat.gcd q.num.natAbs q.den = 1 := q.reduced
  rw [ha, g1] at cm
  have n0 := hq.nn
  have d1 : (1 : Int) ≤ (q.den : Int) := by have := q.den_pos; omega
  simp [d4, start_eq, rv, m_istup2, m_isint, n0, d1, cm]
theorem m_ispart {k : Nat} {h : Hs} {p : Thing} {B : Nat} (g : GI B p) (hB : B ≤ 1300) : callD U (k + 3) 8 [itV p, .non] h = .ok (.bl true) h := by
  rw [call_eq (d := d8) rfl rfl]
  have m1 : (1 : Int) ≤ (p.2 : Int) := by have := g.m0; omega
  have nm := m_isnum (k := k) (h := h) g.q hB
  have np := g.pos
  have e : rv p.1 = .tup [.int p.1.num, .int p.1.den] := rfl
  simp [d8, start_eq, itV, m_istup2, m_isint, m1, nm, e ▸ nm, np, e]
theorem key_rv (a b : Rat) : keyEq (rv a) (rv b) = decide (a = b) := by
  show ((a.num == b.num) && (((a.den : Int) == (b.den : Int)) && true)) = _
  by_cases h : a = b
  · subst h
    simp
  · have : ¬ (a.num = b.num ∧ a.den = b.den) := fun z => h (Rat.ext z.1 z.2)
    by_cases h1 : a.num = b.num
    · have h2 : ¬ a.den = b.den := fun z => this ⟨h1, z⟩
      have h3 : ¬ (a.den : Int) = (b.den : Int) := fun z => h2 (Int.ofNat.inj z)
      simp [h, h3]
    · simp [h, h1]
theorem firstKs_nd : ∀ (qs : List Rat) (acc : List Rat), (acc ++ qs).Nodup → (firstKs (acc.map rv) (qs.map rv)).length = acc.length + qs.length
  | [], acc, _ => by simp [firstKs]
  | q :: qs, acc, h => by
    have hn : (acc.map rv).any (fun x => keyEq x (rv q)) = false := by
      rw [List.any_map, List.any_eq_false]
      intro x hx
      show ¬ keyEq (rv x) (rv q) = true
      rw [key_rv]
      have := (List.nodup_append.mp h).2.2 x hx q List.mem_cons_self
      simpa using this
    show (firstKs (if (acc.map rv).any (fun x => keyEq x (rv q)) then acc.map rv else acc.map rv ++ [rv q]) (qs.map rv)).length = _
    rw [hn]
    have ih := firstKs_nd qs (acc ++ [q]) (by rw [List.append_assoc]; exact h)
    rw [List.map_append] at ih
    have ih' : (firstKs (acc.map rv ++ [rv q]) (qs.map rv)).length = _ := ih
    rw [if_neg Bool.false_ne_true, ih', List.length_append, List.length_cons, List.length_cons, List.length_nil]
    omega
theorem bools_rep (l : List Thing) : boolsOf (l.map fun _ => Val.bl true) = some (l.map fun _ => true) := by
  induction l with
  | nil => rfl
  | cons a l ih =>
    show (boolsOf (l.map fun _ => Val.bl true)).map (true :: ·) = _
    rw [ih]
    rfl
theorem m_islot {k : Nat} {h : Hs} {l : List Thing} {B : Nat} (g : ∀ p ∈ l, GI B p) (hB : B ≤ 1300) (hl : l.length ≤ 1300) (nd : (l.map (·.1)).Nodup) : callD U (k + 4) 9 [lotV l, .non] h = .ok (.bl true) h := by
  rw [call_eq (d := d9) rfl rfl]
  have ml : l.length ≤ most := Nat.le_trans hl (by decide)
  have a1 := mapF_map (h := h) (i := itV) (f := fun _ => Val.bl true) (g := turnC (callD U (k + 3)) [some (.v (lotV l)), some (.v .non), none, none, none] (.v 2) [] (.call 8 [.var 2, .var 1] [])) l (fun p hp => by
    simp [turnC_eq, m_ispart (g p hp) hB])
  have a2 := mapF_map (h := h) (i := itV) (f := fun p => rv p.1) (g := turnD (callD U (k + 3)) [some (.v (lotV l)), some (.v .non), none, none, none] (.t [.v 3, .v 4]) (.var 3)) l (fun p hp => by
    have kt : keyT (rv p.1) = true := rfl
    simp [turnD_eq, itV, kt])
  have fl := firstKs_nd (l.map (fun p : Thing => p.1)) [] nd
  rw [List.map_nil, List.map_map, List.length_map, List.length_nil, Nat.zero_add] at fl
  have fl' : (firstKs [] (l.map fun p => rv p.1)).length = l.length := fl
  have al : allV (.lst (l.map fun _ => Val.bl true)) = some (.bl true) := by
    show (boolsOf (l.map fun _ => Val.bl true)).map _ = _
    rw [bools_rep]
    simp
  have e : lotV l = .tup (l.map itV) := rfl
  have e1 := e ▸ a1
  have e2 := e ▸ a2
  simp [d9, start_eq, e, m_istup0, e1, e2, al, ml, fl']
theorem m_check {k : Nat} {h : Hs} {l : List Thing} {B : Nat} (g : ∀ p ∈ l, GI B p) (hB : B ≤ 1300) (hl : l.length ≤ 1300) (nd : (l.map (·.1)).Nodup) : callD U (k + 5) 10 [lotV l, .non] h = .ok .non h := by
  rw [call_eq (d := d10) rfl rfl]
  simp [d10, start_eq, m_islot g hB hl nd]
theorem m_times {k : Nat} {h : Hs} {p : Thing} {B : Nat} (g : GI B p) (hB : B ≤ 1300) : callD U (k + 3) 6 [rv p.1, .tup [.int p.2, .int 1]] h = .ok (rv (tm p)) h := by
  rw [call_eq (d := d6) rfl rfl]
  have n := m_number (k := k) (h := h) (p.1.num * p.2) p.1.den (Int.mul_nonneg g.q.nn (Int.natCast_nonneg p.2)) p.1.den_pos (Nat.lt_of_lt_of_le g.q.de (Nat.pow_le_pow_right (by decide) hB))
  have s1 : sm 1 = true := by decide +kernel
  simp [d6, start_eq, rv, b_mul (g.q.sn.sm (by omega)) (g.sm_m.sm (by omega)), b_mul (g.q.sd.sm (by omega)) s1, n, tm]
theorem m_ltimes {k : Nat} {h : Hs} {p : Thing} {B : Nat} (h0 : 0 ≤ p.1.num) (hq : Q B p.1) (hm : p.2 < 2 ^ B) (hB : B ≤ 1300) : callD U (k + 2) 18 [rv p.1, .tup [.int p.2, .int 1]] h = .ok (rv (tm p)) h := by
  rw [call_eq (d := d18) rfl rfl]
  have n := m_lnumber (k := k) (h := h) (p.1.num * p.2) p.1.den (Int.mul_nonneg h0 (Int.natCast_nonneg p.2)) p.1.den_pos (Nat.lt_of_lt_of_le hq.de (Nat.pow_le_pow_right (by decide) hB))
  have s1 : sm 1 = true := by decide +kernel
  have s2 : Sm B (p.2 : Int) := by
    unfold Sm
    rw [Int.natAbs_natCast]
    exact hm
  simp [d18, start_eq, rv, b_mul (hq.sn.sm (by omega)) (s2.sm (by omega)), b_mul (hq.sd.sm (by omega)) s1, n, tm]
/-- what a lot fills -/
def due (l : List Thing) : Rat := rsum (l.map tm)
theorem m_filled {k : Nat} {h : Hs} {l : List Thing} (g : ∀ p ∈ l, GI 42 p) (hl : l.length ≤ 8) (nd : (l.map (·.1)).Nodup) : callD U (k + 6) 11 [lotV l] h = .ok (rv (due l)) h := by
  rw [call_eq (d := d11) rfl rfl]
  have ml : l.length ≤ most := Nat.le_trans hl (by decide)
  have ck := m_check (k := k) (h := h) g (by decide) (by omega) nd
  have a1 := mapF_map (h := h) (i := itV) (f := fun p => rv (tm p)) (g := turnC (callD U (k + 5)) [some (.v (lotV l)), none, none] (.t [.v 1, .v 2]) [] (.call 6 [.var 1, .tup [.var 2, .lit (.int 1)]] [])) l (fun p hp => by
    simp [turnC_eq, itV, m_times (g p hp) (by decide)])
  have sm := m_sum_of (k := k + 2) (h := h) (B := 84) (l.map tm) (fun q hq => by
    obtain ⟨p, hp, e⟩ := List.mem_map.mp hq
    rw [← e]
    exact tm_Q (g p hp)) (by rw [List.length_map]; omega) (by decide)
  rw [List.map_map] at sm
  have sm' : callD U (k + 5) 7 [.lst (l.map fun p => rv (tm p))] h = .ok (rv (due l)) h := sm
  have e : lotV l = .tup (l.map itV) := rfl
  have e1 := e ▸ a1
  have e2 := e ▸ ck
  simp [d11, start_eq, e, e1, e2, sm', ml]
end LT
set_option Elab.async false
set_option linter.all false
set_option maxRecDepth 100000
set_option maxHeartbeats 4000000
namespace LT
open PySem Pyi
theorem due_loop {cf : Nat → List Val → Hs → Out Val} {h : Hs} {a : Option Slot} {B : Nat} : ∀ (l : List Thing) (O : Int) (W e : Nat) (s3 s4 : Option Slot), (∀ p ∈ l, GI B p) → 0 ≤ O → Sm e O → 0 < W → Sm e (W : Int) → e + l.length * (B + B + 1) ≤ 1300 →
    ∃ (O' : Int) (W' : Nat) (s3' s4' : Option Slot), loopF (turnF cf (.t [.v 3, .v 4]) [.set 2 (.bin .add (.bin .mul (.var 2) (.idx (.var 3) (.lit (.int 1)))) (.bin .mul (.bin .mul (.idx (.var 3) (.lit (.int 0))) (.var 4)) (.var 1))), .set 1 (.bin .mul (.var 1) (.idx (.var 3) (.lit (.int 1))))]) (l.map itV)
      [a, some (.v (.int W)), some (.v (.int O)), s3, s4] h = .ok .nxt [a, some (.v (.int W')), some (.v (.int O')), s3', s4'] h ∧ 0 ≤ O' ∧ 0 < W' ∧ Sm 1300 (W' : Int) ∧ mkRat O' W' = mkRat O W + rsum (l.map tm)
  | [], O, W, e, s3, s4, _, h0, _, hw, sw, hl => ⟨O, W, s3, s4, rfl, h0, hw, sw.mono (by simpa using hl), by rw [List.map_nil, rsum, Rat.add_zero]⟩
  | p :: l, O, W, e, s3, s4, hg, h0, so, hw, sw, hl => by
    have g := hg p List.mem_cons_self
    rw [List.length_cons, Nat.add_mul, Nat.one_mul] at hl
    have x1 := so.mul g.q.sd
    have x2 := g.q.sn.mul g.sm_m
    have x3 := x2.mul sw
    have x4 := sw.mul g.q.sd
    have n1 := Int.mul_nonneg h0 (Int.natCast_nonneg p.1.den)
    have n2 := Int.mul_nonneg (Int.mul_nonneg g.q.nn (Int.natCast_nonneg p.2)) (Int.natCast_nonneg W)
    have so' : Sm (e + (B + B + 1)) (O * p.1.den + p.1.num * p.2 * W) := (Sm.add (n := e + (B + B)) (x1.mono (by omega)) (x3.mono (by omega))).mono (by omega)
    have sw' : Sm (e + (B + B + 1)) ((W * p.1.den : Nat) : Int) := by
      rw [Int.natCast_mul]
      exact x4.mono (by omega)
    obtain ⟨O', W', t3, t4, ih, i1, i2, i3, i4⟩ := due_loop (cf := cf) (h := h) (a := a) l (O * p.1.den + p.1.num * p.2 * W) (W * p.1.den) (e + (B + B + 1)) (some (.v (rv p.1))) (some (.v (.int p.2))) (fun y hy => hg y (List.mem_cons_of_mem _ hy)) (by omega) so' (Nat.mul_pos hw p.1.den_pos) sw' (by omega)
    refine ⟨O', W', t3, t4, ?_, i1, i2, i3, ?_⟩
    · rw [Int.natCast_mul] at ih
      rw [List.map_cons, lf_cons, ← ih]
      have e : rv p.1 = .tup [.int p.1.num, .int p.1.den] := rfl
      simp [turnF_eq, itV, e, b_mul (so.sm (by omega)) (g.q.sd.sm (by omega)), b_mul (g.q.sn.sm (by omega)) (g.sm_m.sm (by omega)), b_mul (x2.sm (by omega)) (sw.sm (by omega)), b_mul (sw.sm (by omega)) (g.q.sd.sm (by omega))]
    · rw [i4, List.map_cons, rsum, ← Rat.add_assoc]
      congr 1
      unfold tm
      rw [Rat.mkRat_add_mkRat _ _ (Nat.ne_of_gt hw) p.1.den_nz]
theorem m_due {k : Nat} {h : Hs} {l : List Thing} (g : ∀ p ∈ l, GI 42 p) (hl : l.length ≤ 8) : callD U (k + 2) 21 [lotV l] h = .ok (rv (due l)) h := by
  rw [call_eq (d := d21) rfl rfl]
  obtain ⟨O, W, s3, s4, e1, o0, w0, sw, em⟩ := due_loop (cf := callD U (k + 1)) (h := h) (a := some (.v (lotV l))) l 0 1 1 none none g (by decide) (by unfold Sm; decide) (by decide) (by unfold Sm; decide) (by omega)
  have z : mkRat 0 1 = 0 := rfl
  rw [z, Rat.zero_add] at em
  have ln := m_lnumber (k := k) (h := h) O W o0 w0 (by
    unfold Sm at sw
    rw [Int.natAbs_natCast] at sw
    exact sw)
  rw [em] at ln
  have e : lotV l = .tup (l.map itV) := rfl
  rw [e] at e1
  have e1' : loopF _ _ [some (.v (.tup (l.map itV))), some (.v (.int 1)), some (.v (.int 0)), none, none] h = _ := e1
  simp [d21, start_eq, e, e1', ln, due]
theorem Pot.mono {h : Hs} {r c c' : Nat} (P : Pot h r c) (l : c ≤ c') : Pot h r c' := by
  obtain ⟨own, small, cnt, e, p1, p2, p4, p5⟩ := P
  exact ⟨own, small, cnt, e, p1, p2, p4, by omega⟩
theorem rv_one (n : Nat) : rv (mkRat n 1) = .tup [.int n, .int 1] := by
  rw [rv_mk n 1 (by decide), Nat.gcd_one_right]
  simp
theorem mk_pos {o : Int} {u : Nat} (ho : 0 < o) (hu : 0 < u) : 0 < (mkRat o u).num := by
  obtain ⟨o, rfl⟩ := Int.eq_ofNat_of_zero_le (Int.le_of_lt ho)
  rw [Rat.num_mkRat, if_neg (Nat.ne_of_gt hu), Int.natAbs_natCast, ← Int.natCast_ediv]
  have ho' : 0 < o := by omega
  have : 0 < o / Nat.gcd u o := Nat.div_pos (Nat.le_of_dvd ho' (Nat.gcd_dvd_right u o)) (Nat.gcd_pos_of_pos_left _ hu)
  omega
theorem lt_pw {a m n : Nat} (h : a < 2 ^ m) (l : m ≤ n) : a < 2 ^ n := Nat.lt_of_lt_of_le h (Nat.pow_le_pow_right (by decide) l)
theorem m_size {k : Nat} {h : Hs} {r c : Nat} (P : Pot h r c) (hc : c + 10 < 2 ^ 300) (box : Nat) (hb : 0 < box) (hb2 : box < 2 ^ 10) :
    ∃ (q : Rat) (h' : Hs), callD U (k + 3) 19 [.ref r, .int box] h = .ok (rv q) h' ∧ Q 32 q ∧ 0 < q.num ∧ Pot h' r (c + 5) ∧ h'.length = h.length := by
  obtain ⟨way, h1, e1, w1, P1, l1⟩ := m_take (k := k + 1) P (by omega) 5 (by decide) (by decide +kernel)
  obtain ⟨at', h2, e2, w2, P2, l2⟩ := m_take (k := k + 1) P1 (by omega) box hb (Nat.lt_of_lt_of_le hb2 (Nat.pow_le_pow_right (by decide) (by decide)))
  obtain ⟨d, v, h3, e3, w3, P3, l3⟩ := m_of (k := k) P2 (by omega) [.int 3, .int 9, .int 1000000] (by simp) (by decide +kernel)
  obtain ⟨x, ex, x0, x1⟩ : ∃ x : Nat, v = .int x ∧ 0 < x ∧ x ≤ 1000000 := by
    match d, w3 with
    | 0, w3 => cases w3; exact ⟨3, rfl, by decide, by decide⟩
    | 1, w3 => cases w3; exact ⟨9, rfl, by decide, by decide⟩
    | 2, w3 => cases w3; exact ⟨1000000, rfl, by decide, by decide⟩
    | n + 3, w3 => cases w3
  subst ex
  obtain ⟨y, h4, e4, w4, P4, l4⟩ := m_take (k := k + 1) P3 (by omega) x x0 (Nat.lt_of_le_of_lt x1 (by decide +kernel))
  have pw6 : binop .pow (.int 10) (.int 6) = some (.int 1000000) := b_pow (by decide) (by decide) (by decide +kernel)
  have c5 : (5 : Int) = ((5 : Nat) : Int) := rfl
  have sat : Sm 10 (at' : Int) := by
    unfold Sm
    rw [Int.natAbs_natCast]
    omega
  have su : Sm 21 ((2 + y : Nat) : Int) := by
    unfold Sm
    rw [Int.natAbs_natCast]
    omega
  have mu : binop .mul (.int at') (.int (2 + (y : Int))) = some (.int ((at' : Int) * (2 + (y : Int)))) := by
    have := b_mul (sat.sm (by decide)) (su.sm (by decide))
    rw [Int.natCast_add] at this
    exact this
  have hm : at' * (2 + y) ≤ 1024 * 1000001 := Nat.mul_le_mul (by omega) (by omega)
  have b32 : (2 : Int) ^ 32 = 4294967296 := by decide
  have b32n : (2 : Nat) ^ 32 = 4294967296 := by decide
  have y32 : ∀ {n : Nat}, 32 ≤ n → 2 + y < 2 ^ n := fun {n} l => lt_pw (m := 32) (by omega) l
  have um : (2 + (y : Int)) = ((2 + y : Nat) : Int) := by rw [Int.natCast_add]; rfl
  have mm : ((at' : Int) * (2 + (y : Int))) = ((at' * (2 + y) : Nat) : Int) := by rw [Int.natCast_mul, ← um]
  rw [call_eq (d := d19) rfl rfl]
  rcases Nat.lt_or_ge way 2 with hw | hw
  · have hw' : (way : Int) < 2 := by omega
    refine ⟨mkRat ((at' + 1 : Nat) : Int) 1, h4, ?_, mk_Q (by omega) (by omega) (by decide) (by decide), mk_pos (by omega) (by decide), P4.mono (by omega), by omega⟩
    rw [rv_one, Int.natCast_add]
    simp [d19, start_eq, e1, e2, e3, e4, pw6, c5 ▸ e1, hw']
  · rcases Nat.lt_or_ge way 4 with h5 | h5
    · have hw2 : way = 2 ∨ way = 3 := by omega
      have dt : ∃ t : Nat, atI [Val.int 1, Val.int (2 + (y : Int) - 1)] ((way : Int) - 2) = some (.int t) ∧ 0 < t ∧ t ≤ 1000001 := by
        rcases hw2 with e | e
        · subst e
          exact ⟨1, rfl, by decide, by decide⟩
        · subst e
          refine ⟨y + 1, ?_, by omega, by omega⟩
          have e5 : ((3 : Nat) : Int) - 2 = 1 := rfl
          have e6 : 2 + (y : Int) - 1 = ((y + 1 : Nat) : Int) := by omega
          rw [e5, at_1, e6]
      obtain ⟨t, et, t0, t1⟩ := dt
      have ln : callD U (k + 2) 16 [.int ((at' : Int) * (2 + (y : Int)) + t), .int (2 + (y : Int))] h4 = .ok (rv (mkRat ((at' : Int) * (2 + (y : Int)) + t) (2 + y))) h4 := by
        have q := m_lnumber (k := k + 1) (h := h4) ((at' : Int) * (2 + (y : Int)) + t) (2 + y) (by rw [mm]; omega) (by omega) (y32 (by decide))
        rw [← um] at q
        exact q
      have hw' : ¬ (way : Int) < 2 := by omega
      have hw4 : ¬ (way : Int) = 4 := by omega
      refine ⟨mkRat ((at' : Int) * (2 + (y : Int)) + t) (2 + y), h4, ?_, mk_Q (by rw [mm]; omega) (by rw [mm]; omega) (by omega) (by omega), mk_pos (by rw [mm]; omega) (by omega), P4.mono (by omega), by omega⟩
      simp [d19, start_eq, e1, e2, e3, e4, pw6, c5 ▸ e1, hw', hw4, mu, et]
      simp [ln]
    · have e4w : way = 4 := by omega
      subst e4w
      obtain ⟨z, h6, e6, w6, P6, l6⟩ := m_take (k := k + 1) P4 (by omega) (2 + y) (by omega) (y32 (by decide))
      rw [← um] at e6
      have ln : callD U (k + 2) 16 [.int ((at' : Int) * (2 + (y : Int)) + 1 + z), .int (2 + (y : Int))] h6 = .ok (rv (mkRat ((at' : Int) * (2 + (y : Int)) + 1 + z) (2 + y))) h6 := by
        have q := m_lnumber (k := k + 1) (h := h6) ((at' : Int) * (2 + (y : Int)) + 1 + z) (2 + y) (by rw [mm]; omega) (by omega) (y32 (by decide))
        rw [← um] at q
        exact q
      refine ⟨mkRat ((at' : Int) * (2 + (y : Int)) + 1 + z) (2 + y), h6, ?_, mk_Q (by rw [mm]; omega) (by rw [mm]; omega) (by omega) (by omega), mk_pos (by rw [mm]; omega) (by omega), P6, by omega⟩
      simp [d19, start_eq, e1, e2, e3, e4, pw6, c5 ▸ e1, mu, e6, ln]
end LT
set_option Elab.async false
set_option linter.all false
set_option maxRecDepth 100000
set_option maxHeartbeats 4000000
namespace LT
open PySem Pyi
/-- a lot as a dict -/
def kOf (l : List Thing) : List Val := l.map fun p => rv p.1
def vOf (l : List Thing) : List Val := l.map fun p => .int p.2
/-- so many of a size, in its place or at the end -/
def putT (l : List Thing) (q : Rat) (m : Nat) : List Thing := if (l.any fun p => decide (p.1 = q)) then l.map (fun p => if p.1 = q then (p.1, m) else p) else l ++ [(q, m)]
theorem any_k (l : List Thing) (q : Rat) : (kOf l).any (fun x => keyEq x (rv q)) = l.any fun p => decide (p.1 = q) := by
  unfold kOf
  rw [List.any_map]
  congr 1
  funext p
  exact key_rv p.1 q
theorem repl_v (l : List Thing) (q : Rat) (m : Nat) : repl (kOf l) (vOf l) (rv q) (.int m) = vOf (l.map fun p => if p.1 = q then (p.1, m) else p) := by
  induction l with
  | nil => rfl
  | cons p l ih =>
    show (if keyEq (rv p.1) (rv q) then Val.int m else Val.int p.2) :: repl (kOf l) (vOf l) (rv q) (.int m) = _
    rw [ih, key_rv]
    show _ = Val.int (if p.1 = q then (p.1, m) else p).2 :: _
    by_cases h : p.1 = q
    · simp [h, vOf]
    · simp [h, vOf]
theorem dput_T (l : List Thing) (q : Rat) (m : Nat) : dput (kOf l) (vOf l) (rv q) (.int m) = (kOf (putT l q m), vOf (putT l q m)) := by
  unfold dput putT
  rw [any_k]
  by_cases h : (l.any fun p => decide (p.1 = q)) = true
  · rw [if_pos h, if_pos h, repl_v]
    congr 1
    unfold kOf
    rw [List.map_map]
    refine List.map_congr_left fun p _ => ?_
    show rv p.1 = rv (if p.1 = q then (p.1, m) else p).1
    split <;> rfl
  · rw [if_neg h, if_neg h]
    simp [kOf, vOf]
theorem putT_len (l : List Thing) (q : Rat) (m : Nat) : (putT l q m).length ≤ l.length + 1 := by
  unfold putT
  split
  · rw [List.length_map]; omega
  · simp
theorem putT_fst (l : List Thing) (q : Rat) (m : Nat) : ((putT l q m).map (·.1)) = if (l.any fun p => decide (p.1 = q)) then l.map (·.1) else l.map (·.1) ++ [q] := by
  unfold putT
  by_cases h : (l.any fun p => decide (p.1 = q)) = true
  · rw [if_pos h, if_pos h, List.map_map]
    refine List.map_congr_left fun p _ => ?_
    show (if p.1 = q then (p.1, m) else p).1 = p.1
    split <;> rfl
  · rw [if_neg h, if_neg h, List.map_append]
    rfl
theorem putT_nd {l : List Thing} (h : (l.map (·.1)).Nodup) (q : Rat) (m : Nat) : ((putT l q m).map (·.1)).Nodup := by
  rw [putT_fst]
  by_cases ha : (l.any fun p => decide (p.1 = q)) = true
  · rw [if_pos ha]; exact h
  · rw [if_neg ha]
    refine List.nodup_append.mpr ⟨h, by simp, fun x hx y hy => ?_⟩
    rw [List.mem_singleton.mp hy]
    intro e
    obtain ⟨p, hp, ep⟩ := List.mem_map.mp hx
    exact ha (List.any_eq_true.mpr ⟨p, hp, decide_eq_true (ep.trans e)⟩)
theorem putT_gi {B : Nat} {l : List Thing} (h : ∀ p ∈ l, GI B p) {q : Rat} {m : Nat} (g : GI B (q, m)) : ∀ p ∈ putT l q m, GI B p := by
  intro p hp
  unfold putT at hp
  split at hp
  · obtain ⟨x, hx, e⟩ := List.mem_map.mp hp
    have gx := h x hx
    by_cases hq : x.1 = q
    · rw [if_pos hq] at e
      subst e
      exact ⟨gx.q, gx.pos, g.m0, g.mb⟩
    · rw [if_neg hq] at e
      subst e
      exact gx
  · rcases List.mem_append.mp hp with z | z
    · exact h p z
    · rw [List.mem_singleton.mp z]; exact g
theorem zip_it (l : List Thing) : zipV (kOf l) (vOf l) = l.map itV := by
  induction l with
  | nil => rfl
  | cons p l ih =>
    show Val.tup [rv p.1, .int p.2] :: zipV (kOf l) (vOf l) = _
    rw [ih]
    rfl
theorem lot_loop {k : Nat} {box : Nat} {r : Nat} {s2 : Option Slot} (hb : 0 < box) (hb2 : box < 2 ^ 10) : ∀ (n : Nat) (lo : Int) (l : List Thing) (c : Nat) (h : Hs) (s4 : Option Slot), Pot h r c → c + n * 7 + 10 < 2 ^ 300 → (∀ p ∈ l, GI 32 p) → (l.map (·.1)).Nodup → l.length + n ≤ 1000 →
    ∃ (l' : List Thing) (h' : Hs) (s4' : Option Slot), loopF (turnF (callD U (k + 3)) (.v 4) [.dset 3 (.call 19 [.var 0, .var 1] []) (.bin .add (.lit (.int 1)) (.call 13 [.var 0, .call 14 [.var 0, .fr (.lst [.lit (.int 1), .lit (.int 3), .lit (.int 9), .lit (.int 1000)])] []] []))]) (rngV lo n)
      [some (.v (.ref r)), some (.v (.int box)), s2, some (.ownD (kOf l) (vOf l)), s4] h = .ok .nxt [some (.v (.ref r)), some (.v (.int box)), s2, some (.ownD (kOf l') (vOf l')), s4'] h' ∧
      Pot h' r (c + n * 7) ∧ h'.length = h.length ∧ (∀ p ∈ l', GI 32 p) ∧ (l'.map (·.1)).Nodup ∧ l'.length ≤ l.length + n
  | 0, lo, l, c, h, s4, P, hc, g, nd, hl => ⟨l, h, s4, rfl, P, rfl, g, nd, Nat.le_refl _⟩
  | n + 1, lo, l, c, h, s4, P, hc, g, nd, hl => by
    obtain ⟨d, v, h1, e1, w1, P1, l1⟩ := m_of (k := k + 1) P (by omega) [.int 1, .int 3, .int 9, .int 1000] (by simp) (by decide +kernel)
    obtain ⟨x, ex, x0, x1⟩ : ∃ x : Nat, v = .int x ∧ 0 < x ∧ x ≤ 1000 := by
      match d, w1 with
      | 0, w3 => cases w3; exact ⟨1, rfl, by decide, by decide⟩
      | 1, w3 => cases w3; exact ⟨3, rfl, by decide, by decide⟩
      | 2, w3 => cases w3; exact ⟨9, rfl, by decide, by decide⟩
      | 3, w3 => cases w3; exact ⟨1000, rfl, by decide, by decide⟩
      | n + 4, w3 => cases w3
    subst ex
    obtain ⟨y, h2, e2, w2, P2, l2⟩ := m_take (k := k + 2) P1 (by omega) x x0 (lt_pw (m := 10) (by omega) (by decide))
    obtain ⟨q, h3, e3, qq, qp, P3, l3⟩ := m_size (k := k) P2 (by omega) box hb hb2
    have gb : 1 + y < 2 ^ 32 := lt_pw (m := 11) (by omega) (by decide)
    have gq : GI 32 (q, 1 + y) := ⟨qq, qp, by show 0 < 1 + y; omega, gb⟩
    obtain ⟨l', h', s4', e', P', lh, g', nd', le'⟩ := lot_loop (k := k) hb hb2 n (lo + 1) (putT l q (1 + y)) (c + 7) h3 (some (.v (.int lo))) (P3.mono (by omega)) (by omega) (putT_gi g gq) (putT_nd nd q _) (by have := putT_len l q (1 + y); omega)
    refine ⟨l', h', s4', ?_, P'.mono (by omega), by omega, g', nd', by have := putT_len l q (1 + y); omega⟩
    have kt : keyT (rv q) = true := rfl
    have ml : (kOf l).length ≤ most := by
      unfold kOf
      rw [List.length_map]
      exact Nat.le_trans (show l.length ≤ 1000 by omega) (by decide)
    have dp := dput_T l q (1 + y)
    rw [Int.natCast_add] at dp
    have c1 : ((1 : Nat) : Int) = 1 := rfl
    rw [c1] at dp
    rw [← e']
    show loopF _ (.int lo :: rngV (lo + 1) n) _ _ = _
    rw [lf_cons]
    simp [turnF_eq, e1, e2, e3, kt, ml, dp]
theorem m_lot {k : Nat} {h : Hs} {r c : Nat} (P : Pot h r c) (hc : c + 100 < 2 ^ 300) (box : Nat) (hb : 0 < box) (hb2 : box < 2 ^ 10) :
    ∃ (l : List Thing) (h' : Hs), callD U (k + 4) 20 [.ref r, .int box, .int 8] h = .ok (lotV l) h' ∧ Pot h' r (c + 57) ∧ h'.length = h.length ∧ (∀ p ∈ l, GI 32 p) ∧ (l.map (·.1)).Nodup ∧ l.length ≤ 8 := by
  obtain ⟨d, h1, e1, w1, P1, l1⟩ := m_take (k := k + 2) P (by omega) 9 (by decide) (by decide +kernel)
  obtain ⟨l, h', s4, e2, P2, l2, g, nd, le⟩ := lot_loop (k := k) (s2 := some (.v (.int 8))) hb hb2 d 0 [] (c + 1) h1 none P1 (by omega) (fun p hp => by simp at hp) (by simp) (by simp; omega)
  refine ⟨l, h', ?_, P2.mono (by omega), by omega, g, nd, by simp at le; omega⟩
  have ro : rgOk (d : Int) = true := by
    unfold rgOk
    have t1 : (9 : Int) < 2 ^ 62 := by decide
    have t2 : (0 : Int) < 2 ^ 62 := by decide
    rw [Bool.and_eq_true]
    exact ⟨decide_eq_true (by omega), decide_eq_true (by omega)⟩
  have k0 : kOf [] = [] := rfl
  have v0 : vOf [] = [] := rfl
  rw [k0, v0] at e2
  have c9 : (9 : Int) = ((9 : Nat) : Int) := rfl
  have e1' : callD U (k + 3) 13 [.ref r, .int 9] h = .ok (.int d) h1 := e1
  rw [call_eq (d := d20) rfl rfl]
  simp [d20, start_eq, e1', ro, e2, zip_it, lotV]
end LT
set_option Elab.async false
set_option linter.all false
set_option maxRecDepth 100000
set_option maxHeartbeats 4000000
namespace LT
open PySem Pyi
/-! ### plain laws of what a lot fills -/
theorem rsum_app : ∀ (a b : List Rat), rsum (a ++ b) = rsum a + rsum b
  | [], b => (Rat.zero_add _).symm
  | q :: a, b => by
    show q + rsum (a ++ b) = q + rsum a + rsum b
    rw [rsum_app a b, Rat.add_assoc]
theorem rsum_rev : ∀ a : List Rat, rsum a.reverse = rsum a
  | [] => rfl
  | q :: a => by
    rw [List.reverse_cons, rsum_app, rsum_rev a]
    show rsum a + (q + 0) = q + rsum a
    rw [Rat.add_zero, Rat.add_comm]
theorem due_rev (l : List Thing) : due l.reverse = due l := by
  unfold due
  rw [List.map_reverse, rsum_rev]
theorem due_cut (l : List Thing) (n : Nat) : due (l.take n) + due (l.drop n) = due l := by
  unfold due
  rw [← rsum_app, ← List.map_append, List.take_append_drop]
theorem rsum_mul (c : Rat) : ∀ a : List Rat, rsum (a.map (· * c)) = rsum a * c
  | [] => (Rat.zero_mul c).symm
  | q :: a => by
    show q * c + rsum (a.map (· * c)) = (q + rsum a) * c
    rw [rsum_mul c a, Rat.add_mul]
/-- so many times a lot -/
def many (m : Nat) (l : List Thing) : List Thing := l.map fun p => (p.1, m * p.2)
theorem due_many (m : Nat) (l : List Thing) : due (many m l) = tm (due l, m) := by
  rw [tm_eq]
  show due (many m l) = due l * mkRat m 1
  unfold due many
  rw [← rsum_mul, List.map_map, List.map_map]
  congr 1
  refine List.map_congr_left fun p _ => ?_
  show tm (p.1, m * p.2) = tm p * mkRat m 1
  rw [tm_eq, tm_eq]
  show p.1 * mkRat ((m * p.2 : Nat) : Int) 1 = p.1 * mkRat p.2 1 * mkRat m 1
  rw [Rat.mul_assoc, Rat.mkRat_mul_mkRat, Int.natCast_mul, Int.mul_comm]
theorem rsum_Q {B : Nat} : ∀ (qs : List Rat), (∀ q ∈ qs, Q B q) → Q (1 + qs.length * (B + 1)) (rsum qs)
  | [], _ => zero_Q.mono (by simp)
  | q :: qs, h => by
    have ih := rsum_Q qs fun y hy => h y (List.mem_cons_of_mem _ hy)
    refine (Q.add (h q List.mem_cons_self) ih).mono ?_
    rw [List.length_cons, Nat.add_mul]
    omega
theorem due_Q {l : List Thing} (g : ∀ p ∈ l, GI 32 p) (hl : l.length ≤ 8) : Q 521 (due l) := by
  have q := rsum_Q (l.map tm) (fun q hq => by
    obtain ⟨p, hp, e⟩ := List.mem_map.mp hq
    rw [← e]
    exact tm_Q (g p hp))
  rw [List.length_map] at q
  exact q.mono (by omega)
theorem GI.mono {m n : Nat} {p : Thing} (g : GI m p) (l : m ≤ n) : GI n p := ⟨g.q.mono l, g.pos, g.m0, Nat.lt_of_lt_of_le g.mb (Nat.pow_le_pow_right (by decide) l)⟩
theorem ne_rv (a b : Rat) : cmpop .ne (rv a) (rv b) = some (!decide (a = b)) := by
  rw [c_ne rfl rfl]
  congr 2
  show ((a.num == b.num) && (((a.den : Int) == (b.den : Int)) && true)) = _
  exact key_rv a b
/-! ### folded forms -/
theorem lot_len (l : List Thing) : lenV (lotV l) = some (.int l.length) := by
  unfold lotV
  simp
theorem lot_rev (l : List Thing) : getR (lotV l) = some (lotV l.reverse) := by
  unfold lotV
  simp [List.map_reverse]
theorem lot_it (l : List Thing) : itemsOf (lotV l) = some (l.map itV) := rfl
theorem cut_lo {α : Type} (xs : List α) (n : Nat) (hn : n ≤ xs.length) : cut xs none (some (n : Int)) = xs.take n := by
  show (xs.drop 0).take ((if (n : Int) < 0 then ((n : Int) + (xs.length : Int)).toNat else min (n : Int).toNat xs.length) - 0) = _
  rw [if_neg (by omega), Nat.sub_zero, List.drop_zero, Int.toNat_natCast, Nat.min_eq_left hn]
theorem cut_hi {α : Type} (xs : List α) (n : Nat) (hn : n ≤ xs.length) : cut xs (some (n : Int)) none = xs.drop n := by
  have e : sIx xs.length 0 (some (n : Int)) = n := by
    show (if (n : Int) < 0 then ((n : Int) + (xs.length : Int)).toNat else min (n : Int).toNat xs.length) = n
    rw [if_neg (by omega), Int.toNat_natCast, Nat.min_eq_left hn]
  show (xs.drop (sIx xs.length 0 (some (n : Int)))).take (xs.length - sIx xs.length 0 (some (n : Int))) = _
  rw [e, List.take_of_length_le (by rw [List.length_drop]; exact Nat.le_refl _)]
theorem cut_1 {α : Type} (xs : List α) : cut xs none (some 1) = xs.take 1 := by
  cases xs with
  | nil => rfl
  | cons x xs => exact cut_lo (x :: xs) 1 (by simp)
theorem lot_lo (l : List Thing) (n : Nat) (hn : n ≤ l.length) : getS (lotV l) none (some (n : Int)) = some (lotV (l.take n)) := by
  unfold lotV
  rw [slc_t, cut_lo _ _ (by rw [List.length_map]; exact hn), List.map_take]
theorem lot_hi (l : List Thing) (n : Nat) (hn : n ≤ l.length) : getS (lotV l) (some (n : Int)) none = some (lotV (l.drop n)) := by
  unfold lotV
  rw [slc_t, cut_hi _ _ (by rw [List.length_map]; exact hn), List.map_drop]
theorem lot_1 (l : List Thing) : getS (lotV l) none (some 1) = some (lotV (l.take 1)) := by
  unfold lotV
  rw [slc_t, cut_1, List.map_take]
/-! ### texts -/
theorem sOk_app {x y : Str} (h1 : sOk x = true) (h2 : sOk y = true) : sOk (x ++ y) = true := by
  unfold sOk at *
  have e : (x ++ y).cps = x.cps ++ y.cps := rfl
  rw [e, Array.all_append, h1, h2]
  rfl
theorem sOk_str (s : String) : sOk (Str.ofString s) = true := by
  rw [Str.ofString_eq_toList]
  unfold sOk
  rw [Array.all_eq_true']
  intro c hc
  have hc' : c ∈ s.toList.map Char.toNat := by simpa using hc
  obtain ⟨a, _, ea⟩ := List.mem_map.mp hc'
  subst ea
  have v : a.val.toNat < 0xd800 ∨ (0xdfff < a.val.toNat ∧ a.val.toNat < 0x110000) := a.valid
  have e : a.toNat = a.val.toNat := rfl
  exact decide_eq_true (by rw [e]; omega)
theorem repr_rv {q : Rat} (h : Q 1300 q) : ∃ s, reprOf (rv q) = some s ∧ sOk s = true := by
  have n1 : q.num.natAbs < 2 ^ 1900 := lt_pw (Sm.mono (m := 1300) h.sn (Nat.le_refl _)) (by decide)
  have n2 : (q.den : Int).natAbs < 2 ^ 1900 := by
    rw [Int.natAbs_natCast]
    exact lt_pw h.de (by decide)
  refine ⟨(toD (rv q)).shown, ?_, ?_⟩
  · unfold reprOf
    refine if_pos ?_
    have e1 : eqOk (rv q) = true := rfl
    have e2 : strsOk (rv q) = true := rfl
    have e3 : showI (rv q) = true := by
      show (decide (q.num.natAbs < 2 ^ 1900) && (decide ((q.den : Int).natAbs < 2 ^ 1900) && true)) = true
      rw [decide_eq_true n1, decide_eq_true n2]
      rfl
    have e4 : decide (wt (rv q) ≤ 10000000) = true := rfl
    rw [e1, e2, e3, e4]
    rfl
  · show sOk (tupleText [Str.ofString (toString q.num), Str.ofString (toString (q.den : Int))]) = true
    have c : sOk (", " : Str) = true := sOk_str ", "
    have j : Str.join ", " [Str.ofString (toString q.num), Str.ofString (toString (q.den : Int))] = Str.ofString (toString q.num) ++ ", " ++ Str.ofString (toString (q.den : Int)) := rfl
    unfold tupleText
    rw [j]
    exact sOk_app (sOk_app (sOk_str "(") (sOk_app (sOk_app (sOk_str _) c) (sOk_str _))) (sOk_str _)
end LT
set_option Elab.async false
set_option linter.all false
set_option maxRecDepth 100000
set_option maxHeartbeats 8000000
namespace LT
open PySem Pyi
def bR : List S := match d22.body with
  | [_, .for_ _ _ b, _] => b
  | _ => []
def sR0 : S := match d22.body with
  | s :: _ => s
  | _ => .nev
theorem d22_eq : d22.body = [sR0, .for_ (.v 1) (.rng1 (.lit (.int 6))) bR, .ret (.lit (.bl true))] := rfl
theorem many_g {l : List Thing} (g : ∀ p ∈ l, GI 32 p) {m : Nat} (m0 : 0 < m) (m1 : m ≤ 1000) : ∀ p ∈ many m l, GI 42 p := by
  intro p hp
  obtain ⟨x, hx, e⟩ := List.mem_map.mp hp
  subst e
  have gx := g x hx
  refine ⟨gx.q.mono (by decide), gx.pos, Nat.mul_pos m0 gx.m0, ?_⟩
  have l1 : m * x.2 < 2 ^ 10 * 2 ^ 32 := Nat.mul_lt_mul_of_le_of_lt (by omega) gx.mb (by decide)
  rw [← Nat.pow_add] at l1
  exact l1
theorem many_nd {l : List Thing} (nd : (l.map (·.1)).Nodup) (m : Nat) : ((many m l).map (·.1)).Nodup := by
  unfold many
  rw [List.map_map]
  exact nd
theorem sub_g {l l' : List Thing} {B : Nat} (g : ∀ p ∈ l, GI B p) (s : ∀ p ∈ l', p ∈ l) {C : Nat} (h : B ≤ C) : ∀ p ∈ l', GI C p := fun p hp => (g p (s p hp)).mono h
theorem m_turn {k : Nat} {h : Hs} {r c : Nat} (P : Pot h r c) (hc : c + 200 < 2 ^ 300) (s1 s2 s3 s4 s5 s6 s7 s8 : Option Slot) :
    ∃ (h' : Hs) (t2 t3 t4 t5 t6 t7 t8 : Option Slot), evSs (callD U (k + 6)) bR [some (.v (.ref r)), s1, s2, s3, s4, s5, s6, s7, s8] h = .ok .nxt [some (.v (.ref r)), s1, t2, t3, t4, t5, t6, t7, t8] h' ∧ Pot h' r (c + 60) ∧ h'.length = h.length := by
  obtain ⟨d, v, h1, e1, w1, P1, l1⟩ := m_of (k := k + 4) P (by omega) [.int 2, .int 60, .int 600] (by simp) (by decide +kernel)
  obtain ⟨x, ex, x0, x1⟩ : ∃ x : Nat, v = .int x ∧ 0 < x ∧ x ≤ 600 := by
    match d, w1 with
    | 0, w3 => cases w3; exact ⟨2, rfl, by decide, by decide⟩
    | 1, w3 => cases w3; exact ⟨60, rfl, by decide, by decide⟩
    | 2, w3 => cases w3; exact ⟨600, rfl, by decide, by decide⟩
    | n + 3, w3 => cases w3
  subst ex
  obtain ⟨l, h2, e2, P2, l2, g, nd, le⟩ := m_lot (k := k + 2) P1 (by omega) x x0 (by omega)
  have e3 := m_due (k := k + 4) (h := h2) (sub_g g (fun _ z => z) (C := 42) (by decide)) le
  obtain ⟨at', h3, e4, w4, P3, l3⟩ := m_take (k := k + 5) P2 (by omega) (l.length + 1) (by omega) (lt_pw (m := 10) (by omega) (by decide))
  rw [Int.natCast_add] at e4
  obtain ⟨y, h4, e5, w5, P4, l4⟩ := m_take (k := k + 5) P3 (by omega) 1000 (by decide) (by decide +kernel)
  have g42 : ∀ p ∈ l, GI 42 p := sub_g g (fun _ z => z) (by decide)
  have f0 := m_filled (k := k) (h := h4) g42 le nd
  have f1 := m_filled (k := k) (h := h4) (l := l.reverse) (sub_g g (fun p hp => List.mem_reverse.mp hp) (by decide)) (by rw [List.length_reverse]; exact le) (by rw [List.map_reverse]; exact List.pairwise_reverse.mpr (List.Pairwise.imp (fun h => Ne.symm h) nd))
  rw [due_rev] at f1
  have f2 := m_filled (k := k) (h := h4) (l := l.take at') (sub_g g (fun p hp => List.mem_of_mem_take hp) (by decide)) (by rw [List.length_take]; omega) (by rw [List.map_take]; exact nd.sublist (List.take_sublist _ _))
  have f3 := m_filled (k := k) (h := h4) (l := l.drop at') (sub_g g (fun p hp => List.mem_of_mem_drop hp) (by decide)) (by rw [List.length_drop]; omega) (by rw [List.map_drop]; exact nd.sublist (List.drop_sublist _ _))
  have qd := due_Q g le
  have q2 := due_Q (l := l.take at') (fun p hp => g p (List.mem_of_mem_take hp)) (by rw [List.length_take]; omega)
  have q3 := due_Q (l := l.drop at') (fun p hp => g p (List.mem_of_mem_drop hp)) (by rw [List.length_drop]; omega)
  have f4 := m_lsum (k := k + 4) (h := h4) (B := 521) [due (l.take at'), due (l.drop at')] (fun q hq => by
    simp only [List.mem_cons, List.not_mem_nil, or_false] at hq
    rcases hq with rfl | rfl
    · exact q2
    · exact q3) (by simp) (by decide)
  have rs : rsum [due (l.take at'), due (l.drop at')] = due l := by
    show due (l.take at') + (due (l.drop at') + 0) = due l
    rw [Rat.add_zero, due_cut]
  rw [rs] at f4
  have f4' : callD U (k + 6) 17 [.lst [rv (due (l.take at')), rv (due (l.drop at'))]] h4 = .ok (rv (due l)) h4 := f4
  have f5 := m_filled (k := k) (h := h4) (l := many (1 + y) l) (many_g g (by omega) (by omega)) (by unfold many; rw [List.length_map]; exact le) (many_nd nd _)
  rw [due_many] at f5
  have f6 := m_ltimes (k := k + 4) (h := h4) (p := (due l, 1 + y)) (B := 521) qd.nn qd (lt_pw (m := 11) (by show 1 + y < 2 ^ 11; omega) (by decide)) (by decide)
  have f6' : callD U (k + 6) 18 [rv (due l), .tup [.int (1 + (y : Int)), .int 1]] h4 = .ok (rv (tm (due l, 1 + y))) h4 := by
    have z := f6
    rw [show (((due l, 1 + y) : Thing).2 : Int) = 1 + (y : Int) from Int.natCast_add 1 y] at z
    exact z
  obtain ⟨rt, er, sr⟩ := repr_rv (qd.mono (by decide : 521 ≤ 1300))
  have ner : cmpop .ne (.str rt) (.str rt) = some false := by
    have pl : plainV (.str rt) = true := by
      show (true && sOk rt) = true
      rw [sr]
      rfl
    rw [c_ne pl pl]
    show some (!(rt == rt)) = _
    simp
  have lb : sm (1 + (y : Int)) = true := sm_of (by
    have : (1 + (y : Int)).natAbs = 1 + y := by omega
    rw [this]
    exact lt_pw (m := 11) (by omega) (by decide))
  have cm := mapF_map (h := h4) (i := itV) (f := fun p => itV (p.1, (1 + y) * p.2)) (g := turnC (callD U (k + 6)) [some (.v (.ref r)), s1, some (.v (lotV l)), some (.v (rv (due l))), some (.v (.int at')), some (.v (.int (1 + (y : Int)))), s6, s7, s8] (.t [.v 6, .v 8]) [] (.tup [.var 6, .bin .mul (.var 5) (.var 8)])) l (fun p hp => by
    have sp := (g p hp).sm_m.sm (by decide)
    have c0 : ((1 + y : Nat) : Int) = 1 + (y : Int) := Int.natCast_add 1 y
    simp [turnC_eq, itV, b_mul lb sp, Int.natCast_mul, c0])
  have mt : Val.tup (l.map fun p => itV (p.1, (1 + y) * p.2)) = lotV (many (1 + y) l) := by
    unfold lotV many
    rw [List.map_map]
    rfl
  have ml : l.length ≤ most := Nat.le_trans le (by decide)
  have la : at' ≤ l.length := by omega
  -- the last loop
  have lst : ∃ t6 t7, loopF (turnF (callD U (k + 6)) (.t [.v 6, .v 7]) [.if_ (.cmp .ne (.call 11 [.slc (.var 2) none (some (.lit (.int 1)))] []) (.call 16 [.bin .mul (.idx (.var 6) (.lit (.int 0))) (.var 7), .idx (.var 6) (.lit (.int 1))] [])) [.ret (.lit (.bl false))] []])
      ((l.take 1).map itV) [some (.v (.ref r)), s1, some (.v (lotV l)), some (.v (rv (due l))), some (.v (.int at')), some (.v (.int (1 + (y : Int)))), s6, s7, s8] h4 = .ok .nxt [some (.v (.ref r)), s1, some (.v (lotV l)), some (.v (rv (due l))), some (.v (.int at')), some (.v (.int (1 + (y : Int)))), t6, t7, s8] h4 := by
    cases l with
    | nil => exact ⟨s6, s7, rfl⟩
    | cons p l =>
      have gp := g p List.mem_cons_self
      have f7 := m_filled (k := k) (h := h4) (l := [p]) (fun x hx => by rw [List.mem_singleton.mp hx]; exact gp.mono (by decide)) (by simp) (by simp)
      have dp : due [p] = tm p := Rat.add_zero _
      rw [dp] at f7
      have f8 := m_lnumber (k := k + 5) (h := h4) (p.1.num * p.2) p.1.den (Int.mul_nonneg gp.q.nn (Int.natCast_nonneg p.2)) p.1.den_pos (lt_pw gp.q.de (by decide))
      have f8' : callD U (k + 6) 16 [.int (p.1.num * p.2), .int p.1.den] h4 = .ok (rv (tm p)) h4 := f8
      refine ⟨some (.v (rv p.1)), some (.v (.int p.2)), ?_⟩
      have t1 : List.take 1 (p :: l) = [p] := rfl
      have er1 : rv p.1 = .tup [.int p.1.num, .int p.1.den] := rfl
      have l1' := lot_1 (p :: l)
      rw [t1] at l1'
      rw [t1]
      simp [turnF_eq, itV, l1', f7, er1, b_mul (gp.q.sn.sm (by decide)) (gp.sm_m.sm (by decide)), f8', ne_rv]
  obtain ⟨t6, t7, lst⟩ := lst
  rw [List.map_take] at lst
  refine ⟨h4, some (.v (lotV l)), some (.v (rv (due l))), some (.v (.int at')), some (.v (.int (1 + (y : Int)))), t6, t7, s8, ?_, P4.mono (by omega), by omega⟩
  have c1 : ((1 : Nat) : Int) = 1 := rfl
  rw [c1] at e4
  have e5' : callD U (k + 6) 13 [.ref r, .int 1000] h3 = .ok (.int y) h4 := e5
  simp [bR, d22, e1, e2, e3, lot_len, e4, e5', f0, er, ner, lot_rev, f1, ne_rv, lot_lo l at' la, lot_hi l at' la, f2, f3, f4', lot_it, ml, cm, mt, f5, f6', lot_1, lst]
theorem m_turns {k : Nat} {r : Nat} : ∀ (n : Nat) (lo : Int) (h : Hs) (c : Nat) (s1 s2 s3 s4 s5 s6 s7 s8 : Option Slot), Pot h r c → c + n * 60 + 200 < 2 ^ 300 →
    ∃ (h' : Hs) (e' : Pyi.Env), loopF (turnF (callD U (k + 6)) (.v 1) bR) (rngV lo n) [some (.v (.ref r)), s1, s2, s3, s4, s5, s6, s7, s8] h = .ok .nxt e' h' ∧ h'.length = h.length
  | 0, lo, h, c, s1, s2, s3, s4, s5, s6, s7, s8, P, hc => ⟨h, _, rfl, rfl⟩
  | n + 1, lo, h, c, s1, s2, s3, s4, s5, s6, s7, s8, P, hc => by
    obtain ⟨h1, t2, t3, t4, t5, t6, t7, t8, e1, P1, l1⟩ := m_turn (k := k) P (by omega) (some (.v (.int lo))) s2 s3 s4 s5 s6 s7 s8
    obtain ⟨h2, e', e2, l2⟩ := m_turns (k := k) n (lo + 1) h1 (c + 60) (some (.v (.int lo))) t2 t3 t4 t5 t6 t7 t8 P1 (by omega)
    refine ⟨h2, e', ?_, by omega⟩
    show loopF _ (.int lo :: rngV (lo + 1) n) _ _ = _
    rw [lf_cons]
    simp [turnF_eq, e1, e2]
theorem m_right {k : Nat} {h : Hs} {r : Nat} (P : Pot h r 0) : ∃ h', callD U (k + 7) 22 [.ref r] h = .ok (.bl true) h' ∧ h'.length = h.length := by
  obtain ⟨h', e', e1, l1⟩ := m_turns (k := k) (r := r) 6 0 h 0 none none none none none none none none P (by decide +kernel)
  refine ⟨h', ?_, l1⟩
  rw [call_eq (d := d22) rfl rfl, d22_eq]
  have f0 := m_filled (k := k) (h := h) (l := []) (fun p hp => by simp at hp) (by simp) (by simp)
  have l0 : lotV [] = .tup [] := rfl
  have z0 : rv (due []) = rv 0 := rfl
  rw [l0, z0] at f0
  have zz : Val.tup [.int 0, .int 1] = rv 0 := rfl
  have ro : rgOk 6 = true := by decide +kernel
  have t6 : (6 : Int).toNat = 6 := rfl
  simp [sR0, d22, start_eq, f0, zz, ne_rv, ro, t6, e1]
theorem m_cells {k : Nat} {h : Hs} (ns : List Int) (hl : ns.length ≤ 63) : ∃ n : Nat, callD U (k + 1) 15 [.scr ns, .int 6] h = .ok (.lst (rngV 0 n)) h ∧ n ≤ 6 := by
  have ex : ∃ n : Nat, (if (if (ns.length : Int) < 6 then (ns.length : Int) else 6) > 1 then (if (ns.length : Int) < 6 then (ns.length : Int) else 6) else 1) = (n : Int) ∧ n ≤ 6 := by
    by_cases h6 : (ns.length : Int) < 6
    · rw [if_pos h6]
      by_cases h1 : (ns.length : Int) > 1
      · exact ⟨ns.length, by rw [if_pos h1], by omega⟩
      · exact ⟨1, by rw [if_neg h1]; rfl, by decide⟩
    · rw [if_neg h6]
      exact ⟨6, rfl, by decide⟩
  obtain ⟨n, en, hn⟩ := ex
  refine ⟨n, ?_, hn⟩
  have ro : rgOk (n : Int) = true := by
    unfold rgOk
    have t1 : (9 : Int) < 2 ^ 62 := by decide
    have t2 : (0 : Int) < 2 ^ 62 := by decide
    rw [Bool.and_eq_true]
    exact ⟨decide_eq_true (by omega), decide_eq_true (by omega)⟩
  have ml : n ≤ most := Nat.le_trans hn (by decide)
  rw [call_eq (d := d15) rfl rfl]
  simp only [d15, start_eq, List.map_cons, List.map_nil, ss_cons, s_ret_, e_fr, f_ofIt, i_rng1, e_bi, es_cons, es_nil, e_lit, e_var, lv_int]
  simp [en, ro, rngV_len, ml]
def T60 : Int := 1000000000000000000000000000000000000000000000000000000000000
def T300 : Int := 1000000000000000000000000000000000000000000000000000000000000000000000000000000000000000000000000000000000000000000000000000000000000000000000000000000000000000000000000000000000000000000000000000000000000000000000000000000000000000000000000000000000000000000000000000000000000000000000000000000000000
theorem m_pot {k : Nat} {h : Hs} (ns : List Int) (n : Nat) (hn : n ≤ 6) : ∃ o, callD U (k + 1) 12 [.scr ns, .int n] h = .ok (.ref h.length) (h ++ [o]) ∧ Pot (h ++ [o]) h.length 0 := by
  have sn : Sm 3 (n : Int) := by
    unfold Sm
    rw [Int.natAbs_natCast]
    omega
  have p60 : binop .pow (.int 10) (.int 60) = some (.int T60) := (b_pow (by decide) (by decide) (by decide +kernel)).trans (congrArg (fun z => some (Val.int z)) (show (10 : Int) ^ Int.toNat 60 = T60 by decide +kernel))
  have p300 : binop .pow (.int T60) (.int 5) = some (.int T300) := (b_pow (by decide) (by decide) (by decide +kernel)).trans (congrArg (fun z => some (Val.int z)) (show T60 ^ Int.toNat 5 = T300 by decide +kernel))
  have p18 : binop .pow (.int 10) (.int 18) = some (.int 1000000000000000000) := (b_pow (by decide) (by decide) (by decide +kernel)).trans (congrArg (fun z => some (Val.int z)) (show (10 : Int) ^ Int.toNat 18 = 1000000000000000000 by decide +kernel))
  have t0 : (0 : Int) < T300 := by decide +kernel
  have st : Sm 1000 T300 := by unfold Sm; decide +kernel
  have main : ∀ cell : Int, (evE (callD U k) (.ite (.cmp .lt (.var 1) (.bi .len [.var 0])) (.idx (.var 0) (.var 1)) (.bin .add (.bin .mul (.lit (.int 293)) (.var 1)) (.lit (.int 139)))) [some (.v (.scr ns)), some (.v (.int n)), none, none, none] h) = .ok (.int cell) h →
      ∃ o, callD U (k + 1) 12 [.scr ns, .int n] h = .ok (.ref h.length) (h ++ [o]) ∧ Pot (h ++ [o]) h.length 0 := by
    intro cell ec
    generalize hA : (if cell < 0 then -cell else cell) = A
    have a0 : 0 ≤ A := by
      rw [← hA]
      split <;> omega
    have s1 : Sm 1000 (A % T300) := st.emod t0
    have o1 : sm (if 1000000000000000000 ≤ A then (1 : Int) else 0) = true := by
      split
      · decide +kernel
      · decide +kernel
    have m1 := b_mul (s1.sm (by decide)) o1
    generalize hS : cell % 2305843009213693951 = sl at *
    have sl0 : 0 ≤ sl := by rw [← hS]; exact Int.emod_nonneg _ (by decide)
    have sl1 : sl < 2305843009213693951 := by rw [← hS]; exact Int.emod_lt_of_pos _ (by decide)
    have ssl : Sm 61 sl := Sm.nat sl0 (by have : (2 : Int) ^ 61 = 2305843009213693952 := by decide
                                          omega)
    have m2 := b_mul (ssl.sm (by decide)) (show sm 74561 = true by decide +kernel)
    have m3 := b_mul (show sm 7841 = true by decide +kernel) (sn.sm (by decide))
    have m4 := b_mul ((Sm.mul (m := 13) (i := 7841) (by unfold Sm; decide) sn).sm (by decide)) (sn.sm (by decide))
    have r0 : (0 : Int) ≤ (sl * 74561 + 7841 * n * n + 211) % 2305843009213693921 := Int.emod_nonneg _ (by decide)
    have r1 : (sl * 74561 + 7841 * n * n + 211) % 2305843009213693921 < 2305843009213693921 := Int.emod_lt_of_pos _ (by decide)
    have b61 : (2 : Int) ^ 61 = 2305843009213693952 := by decide
    refine ⟨.lst [.int (A % T300 * if 1000000000000000000 ≤ A then (1 : Int) else 0), .int ((sl * 74561 + 7841 * n * n + 211) % 2305843009213693921), .int 0], ?_, _, _, _, by rw [List.getElem?_append_right (Nat.le_refl _), Nat.sub_self]; rfl, ?_, ⟨r0, by rw [b61]; omega⟩, by decide, by decide⟩
    · rw [call_eq (d := d12) rfl rfl]
      simp only [d12, start_eq, List.map_cons, List.map_nil, List.length_cons, List.length_nil, ss_cons, s_set_]
      have ec' : evE (callD U k) (.ite (.cmp .lt (.var 1) (.bi .len [.var 0])) (.idx (.var 0) (.var 1)) (.bin .add (.bin .mul (.lit (.int 293)) (.var 1)) (.lit (.int 139)))) ([some (.v (.scr ns)), some (.v (.int n))] ++ List.replicate (5 - (0 + 1 + 1)) none) h = .ok (.int cell) h := ec
      rw [ec']
      simp [hA, p60, p300, p18, b_mod t0, m1, b_mod, hS, m2, m3, m4]
    · exact Int.mul_nonneg (Int.emod_nonneg _ (Int.ne_of_gt t0)) (by split <;> decide)
  by_cases hl : n < ns.length
  · refine main ns[n] ?_
    have hl' : (n : Int) < (ns.length : Int) := by omega
    simp [hl', at_n hl, List.getElem?_eq_getElem hl]
  · refine main (293 * n + 139) ?_
    have hl' : ¬ (n : Int) < (ns.length : Int) := by omega
    have m0 := b_mul (show sm 293 = true by decide +kernel) (sn.sm (by decide))
    simp [hl', m0]
/-- the turns of the law's own comprehension -/
theorem law_map {k : Nat} (ns : List Int) : ∀ (n : Nat) (lo : Nat) (h : Hs), lo + n ≤ 6 → ∃ h', mapF (turnC (callD U (k + 8)) [some (.v (.scr ns)), none] (.v 1) [] (.call 22 [.call 12 [.var 0, .var 1] []] [])) (rngV lo n) h = .ok (List.replicate n (.bl true)) h'
  | 0, lo, h, _ => ⟨h, rfl⟩
  | n + 1, lo, h, hl => by
    obtain ⟨o, e1, P⟩ := m_pot (k := k + 7) (h := h) ns lo (by omega)
    obtain ⟨h2, e2, _⟩ := m_right (k := k + 1) P
    obtain ⟨h3, e3⟩ := law_map (k := k) ns n (lo + 1) h2 (by omega)
    refine ⟨h3, ?_⟩
    have e1' : callD U (k + 8) 12 [.scr ns, .int lo] h = .ok (.ref h.length) (h ++ [o]) := e1
    have e2' : callD U (k + 8) 22 [.ref h.length] (h ++ [o]) = .ok (.bl true) h2 := e2
    rw [Int.natCast_add] at e3
    show mapF _ (.int lo :: rngV ((lo : Int) + 1) n) h = _
    rw [mf_cons]
    have c1 : ((1 : Nat) : Int) = 1 := rfl
    rw [c1] at e3
    have ht : turnC (callD U (k + 8)) [some (.v (.scr ns)), none] (.v 1) [] (.call 22 [.call 12 [.var 0, .var 1] []] []) (.int lo) h = .ok (some (.bl true)) h2 := by
      simp [turnC_eq, e1', e2']
    rw [ht]
    simp [e3, List.replicate_succ]
theorem all_rep (n : Nat) : allV (.lst (List.replicate n (.bl true))) = some (.bl true) := by
  have : ∀ n, boolsOf (List.replicate n (Val.bl true)) = some (List.replicate n true) := by
    intro n
    induction n with
    | zero => rfl
    | succ n ih =>
      show (boolsOf (List.replicate n (Val.bl true))).map (true :: ·) = _
      rw [ih]
      rfl
  show (boolsOf (List.replicate n (Val.bl true))).map _ = _
  rw [this]
  simp
theorem law_true (ns : List Int) (hl : ns.length ≤ 63) : ∃ h', callD U 60 23 [.scr ns] [] = .ok (.bl true) h' := by
  obtain ⟨n, e1, hn⟩ := m_cells (k := 58) (h := []) ns hl
  obtain ⟨h', e2⟩ := law_map (k := 51) ns n 0 [] (by omega)
  refine ⟨h', ?_⟩
  have ml : (rngV 0 n).length ≤ most := by
    rw [rngV_len]
    exact Nat.le_trans hn (by decide)
  have e2' : mapF (turnC (callD U 59) [some (.v (.scr ns)), none] (.v 1) [] (.call 22 [.call 12 [.var 0, .var 1] []] [])) (rngV 0 n) [] = .ok (List.replicate n (.bl true)) h' := e2
  have e1' : callD U 59 15 [.scr ns, .int 6] [] = .ok (.lst (rngV 0 n)) [] := e1
  rw [call_eq (k := 59) (d := d23) rfl rfl]
  simp [d23, start_eq, e1', ml, e2', all_rep]
end LT
set_option Elab.async false
set_option linter.all false
set_option maxRecDepth 100000
set_option maxHeartbeats 0
namespace LT
open PySem PySem.Spec PyProof.Rows L2 Pyi
def nm0 : List Str := ["ReckonError", "BadLot", "PAIR", "NOUGHT", "is_integer", "is_tuple", "common", "number", "is_number", "is_size", "times", "sum_of", "is_part", "is_lot", "check_lot", "filled", "_law_pot", "_law_take", "_law_of", "_law_cells", "_law_number", "_law_sum", "_law_times", "_law_size", "_law_lot", "_law_due", "_law_right"]
def names : List Str := nm0
abbrev R : PySem.W.OpenRow := PySem.W.OpenLaw.row PySem.Challenge.rw_sizesreckoned_k06_whole_lots_filled
abbrev hk : PySem.W.Hook := hookE 4 fa fn ex
def ob (s : PySem.W.SharedT) : He.AlD × Bool := obsE 4 fa fn ex (HandSHeadRun.getT s)
theorem ob_eq (s : PySem.W.SharedT) : ob s = hk.obs s.abs := obsE_eq (HandSHeadRun.getT_eq s)
theorem run (w : World) : HandSHeadRun.RunEq R (PySem.W.view R.prog [31]) hk ob 20000 names w := by
  intro os
  kernel_rfl
end LT
open PySem PySem.W PySem.Calls PyProof.Rows
theorem PySem.Challenge.cw_sizesreckoned_k06_whole_lots_filled_holds : PySem.Challenge.rw_sizesreckoned_k06_whole_lots_filled.Holds := by
  w_on; o_law
  refine HandSHeadRun.head_any (r := OpenLaw.row PySem.Challenge.rw_sizesreckoned_k06_whole_lots_filled) (q := view (OpenLaw.row PySem.Challenge.rw_sizesreckoned_k06_whole_lots_filled).prog [31]) (H := LT.hk) (ob := LT.ob) (M := 20000) (loose := LT.names) (d := HandSHeadRun.topDef (OpenLaw.row PySem.Challenge.rw_sizesreckoned_k06_whole_lots_filled).prog 31) (kwd := []) LT.ob_eq
    (by kernel_rfl) (fun s => by kernel_rfl) LT.run (by kernel_rfl) (by kernel_rfl) (by kernel_rfl) (by rfl) (by first | assumption | decide +kernel) (by decide +kernel) ⟨rfl, rfl, rfl, rfl, rfl, by decide +kernel⟩ ?hw ?hc
  case hw => w_witness2
  case hc =>
    refine Pyi.walk_run (l := PySem.Challenge.rw_sizesreckoned_k06_whole_lots_filled) (n := 63) (k := 60) (x := "script") (U := LT.U) (f := 23) rfl (by decide) (by kernel_rfl) ⟨rfl, by decide, by decide⟩ ?F LT.law_true
    intro w mg fa h Y G hmg0
    obtain ⟨K, KX, c, x⟩ := Y
    have hmg : mg ("law" : PySem.Str) = some (.ref fa) := by
      have e : (HandSHeadRun.topDef (OpenLaw.row PySem.Challenge.rw_sizesreckoned_k06_whole_lots_filled).prog 31).name = ("law" : PySem.Str) := by kernel_rfl
      rw [← e]
      exact hmg0
    obtain ⟨fd, F⟩ := c.defs (d := LT.e23) (by unfold LT.fn; simp)
    have bnd := L2.FunD.bindsA (ps := ["script"]) F fun _ _ _ _ _ _ us hl => match us, hl with | [_], _ => rfl
    refine ⟨K, fd, fun n => He.ga K (LT.cls n), KX, fun s v => bnd s [v] rfl, fun base KB GB => ?_⟩
    have e1 := He.glo_ok KX G (c.facts (f := .glo "law") (by unfold LT.fa; simp))
    rw [hmg] at e1
    cases e1
    exact Pyi.frow_ok (LT.hyp KX G c x 59) (LT.r23 KX G c F)
