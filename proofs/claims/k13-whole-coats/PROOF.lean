import PyProof.Rows.All
import Wide.All
import OpenK.AllK
import Wide.FinOn
import HandS.ForMost
import KE.DataEq
import KE.DataCmp
import KE.LtData
import HandS.ForExc
import HandS.Lambda
import HandS.Wide
import HandS.TupAny
import HandS.TupMul
import HandS.TupLe
import HandS.IsInst
import HandS.Conv
import HandS.SetFor
import PyProof.EnumMake
import KE.GoesMore
import KE.GoesEnum
import HandS.Zip
import HandS.Style
import HandS.Defaults
import HandS.MakeKw
import PyProof.EqAt
import Open.SpecLaws
import KE.OsGo
import KE.KSuper
import KE.KExcSuper
import HandS.ForSpec
import HandS.ExcSuper
import HandS.ExcField
import HandS.Head0
import HandS.Head1
import HandS.Head2
import HandS.HeadHook1
import HandS.HeadHook2
import HandS.HeadHook3
import HandS.HeadHook4
import HandS.HeadWalk
import HandS.EndTab
import KE.KStateDown
import Lean
import HandS.HeadEnd
import PySem.Challenge.RW_coatsback_k13_whole_coats_given_back_by

section
set_option Elab.async false
set_option linter.all false
set_option maxRecDepth 100000
set_option autoImplicit false
/-! the small language and its meaning -/
namespace Ev
open PySem
abbrev D := PyData

/-- a value: data, or a thing on the small heap -/
inductive Val where
  | d (x : D)
  | ref (n : Nat)
/-- what stands on the small heap: a list that may be changed, one that may be read only, nothing any more -/
inductive Ob where
  | lst (xs : List D)
  | ro (k : Bool) (xs : List D)
  | dead
abbrev Hq := List Ob
abbrev Env := List (Option Val)

/-- two-place operators -/
inductive B2 where
  | add | sub | mul | fdiv | mod | pow | eq | ne | lt | le | gt | ge | isin | notin | is_ | isnot
  deriving DecidableEq
/-- one-place operators -/
inductive U1 where
  | neg | not_
  deriving DecidableEq
/-- built-ins -/
inductive BI where
  | abs | len | int | str | tuple | list | all | any | sum | sorted | min | max | lenset | sortedset | isInt | isBool | isTup | isStr | tupleR | listR
  deriving DecidableEq
/-- what is walked -/
inductive IK where
  | seq | range | enum | zip
  deriving DecidableEq
/-- methods of lists that are changed -/
inductive MK where
  | append | pop | popAt | index
  deriving DecidableEq
inductive Tg where
  | nm (i : Nat)
  | tup (ts : List Tg)

inductive E where
  | var (i : Nat)
  | con (c : D)
  | glob (x : Str) (c : D)
  | tup (es : List E)
  | lst (es : List E)
  | nlst (es : List E)
  | nlist (e : E)
  | nlistR (es : List E)
  | frz (e : E)
  | bin (o : B2) (a b : E)
  | un (o : U1) (a : E)
  | chain (o p : B2) (a b c : E)
  | and_ (a b : E)
  | or_ (a b : E)
  | ife (c a b : E)
  | idx (a b : E)
  | slice (a : E) (lo hi : List E)
  | bi (f : BI) (es : List E)
  | call (f : Nat) (es : List E)
  | callk (f : Nat) (es ks : List E) (perm : List Nat)
  | meth (m : MK) (o : E) (es : List E)
  | comp (elt : E) (t : Tg) (k : IK) (its : List E) (ifs : List E) (own : List Nat)
  | refused (e : E)

inductive S where
  | asg (t : Tg) (e : E)
  | par (is : List Nat) (es : List E)
  | unp (is : List Nat) (es : List E)
  | setix (o i e : E)
  | swapix (o i j : E)
  | aug (i : Nat) (o : B2) (e : E)
  | expr (e : E)
  | ret (e : E)
  | retN
  | if_ (c : E) (a b : List S)
  | for_ (t : Tg) (k : IK) (its : List E) (body : List S)
  | while_ (c : E) (body : List S)
  | brk
  | cont
  | pass
  | raise (c : Nat) (e : E)

inductive R where
  | val (v : Val)
  | exc (c : Nat) (p : D)
inductive RA where
  | vals (vs : List Val)
  | exc (c : Nat) (p : D)
abbrev ER := Option (R × Hq)
abbrev AR := Option (RA × Hq)
inductive Fl where
  | nx (env : Env)
  | brk (env : Env)
  | cont (env : Env)
  | ret (v : Val)
  | exc (c : Nat) (p : D)
abbrev SR := Option (Fl × Hq)
/-- what calls do: the function, its arguments, the heap -/
abbrev CallS := Nat → List Val → Hq → ER

def bnd (r : ER) (f : Val → Hq → ER) : ER := match r with
  | some (.val v, h) => f v h
  | some (.exc c p, h) => some (.exc c p, h)
  | none => none
def bndA (r : AR) (f : List Val → Hq → ER) : ER := match r with
  | some (.vals v, h) => f v h
  | some (.exc c p, h) => some (.exc c p, h)
  | none => none
def consA (r : ER) (f : Hq → AR) : AR := match r with
  | some (.val v, h) => (match f h with
    | some (.vals vs, h') => some (.vals (v :: vs), h')
    | some (.exc c p, h') => some (.exc c p, h')
    | none => none)
  | some (.exc c p, h) => some (.exc c p, h)
  | none => none

def viewV (h : Hq) : Val → Option D
  | .d x => some x
  | .ref n => match h[n]? with
    | some (.lst xs) => some (.list xs)
    | some (.ro _ xs) => some (.list xs)
    | _ => none
def viewL (h : Hq) : List Val → Option (List D)
  | [] => some []
  | v :: vs => match viewV h v with
    | some d => (match viewL h vs with
      | some ds => some (d :: ds)
      | none => none)
    | none => none
def pureL : List Val → Option (List D)
  | [] => some []
  | .d x :: vs => (match pureL vs with
    | some ds => some (x :: ds)
    | none => none)
  | .ref _ :: _ => none

def line : Nat := 16777216
def isBl : D → Option Bool
  | .bool b => some b
  | _ => none
/-- the items of a list or a tuple -/
def itemsOf : D → Option (List D)
  | .list xs => some xs
  | .tuple xs => some xs
  | _ => none
def ixOf (n : Nat) (i : Int) : Option Nat := if 0 ≤ i then (if i < n then some i.toNat else none) else if -(n : Int) ≤ i then some (i + n).toNat else none
def atD (xs : List D) (i : Int) : Option D := (ixOf xs.length i).bind fun j => xs[j]?
def cutD (xs : List D) (lo hi : Option Int) : List D := (xs.drop (HT.sIx xs.length 0 lo)).take (HT.sIx xs.length xs.length hi - HT.sIx xs.length 0 lo)
def smallI (i : Int) : Bool := decide (-(2 ^ 64) < i) && decide (i < 2 ^ 64)
def mulOk (i j : Int) : Bool := (smallI i || smallI j) || decide (i.natAbs < 2 ^ 4000 ∧ j.natAbs < 2 ^ 4000)
def divOk (j : Int) : Bool := decide (0 < j) && decide (j.natAbs < 2 ^ 4000)

def B2.arith : B2 → Bool
  | .add | .sub | .mul | .fdiv | .mod | .pow => true
  | _ => false
/-- what an operator sees of a value -/
def opnd (o : B2) (h : Hq) (v : Val) : Option D := match o.arith with
  | true => (match v with
    | .d x => some x
    | .ref _ => none)
  | false => viewV h v
def isNone : D → Bool
  | .none => true
  | _ => false
def sem2 (o : B2) (x y : D) : Option D := match o with
  | .add => (match x, y with
    | .int i, .int j => some (.int (i + j))
    | .list xs, .list ys => if xs.length + ys.length ≤ line then some (.list (xs ++ ys)) else none
    | .tuple xs, .tuple ys => if xs.length + ys.length ≤ line then some (.tuple (xs ++ ys)) else none
    | .str s, .str t => if s.length + t.length ≤ line then some (.str (s ++ t)) else none
    | _, _ => none)
  | .sub => (match x, y with
    | .int i, .int j => some (.int (i - j))
    | _, _ => none)
  | .mul => (match x, y with
    | .int i, .int j => if mulOk i j then some (.int (i * j)) else none
    | .list xs, .int k => if 0 ≤ k ∧ k ≤ 1000000 ∧ xs.length * k.toNat ≤ line then some (.list (List.replicate k.toNat xs).flatten) else none
    | .tuple xs, .int k => if xs ≠ [] ∧ 2 ≤ k ∧ k ≤ 1000 ∧ xs.length ≤ 1000 then some (.tuple (List.replicate k.toNat xs).flatten) else none
    | _, _ => none)
  | .fdiv => (match x, y with
    | .int i, .int j => if divOk j then some (.int (i / j)) else none
    | _, _ => none)
  | .mod => (match x, y with
    | .int i, .int j => if 0 < j then some (.int (i % j)) else none
    | _, _ => none)
  | .pow => (match x, y with
    | .int i, .int j => if 0 ≤ j ∧ j ≤ 1000 ∧ i.natAbs < 1000 then some (.int (i ^ j.toNat)) else none
    | _, _ => none)
  | .eq => if min x.depth y.depth ≤ 40 then some (.bool (PyData.eqv x y)) else none
  | .ne => if min x.depth y.depth ≤ 40 then some (.bool (!PyData.eqv x y)) else none
  | .lt => (match x, y with
    | .int i, .int j => some (.bool (decide (i < j)))
    | _, _ => none)
  | .le => (match x, y with
    | .int i, .int j => some (.bool (decide (i ≤ j)))
    | _, _ => none)
  | .gt => (match x, y with
    | .int i, .int j => some (.bool (decide (j < i)))
    | _, _ => none)
  | .ge => (match x, y with
    | .int i, .int j => some (.bool (decide (j ≤ i)))
    | _, _ => none)
  | .isin => (match itemsOf y with
    | some ys => if x.depth ≤ 40 then some (.bool (ys.any fun z => PyData.eqv z x)) else none
    | none => none)
  | .notin => (match itemsOf y with
    | some ys => if x.depth ≤ 40 then some (.bool (!ys.any fun z => PyData.eqv z x)) else none
    | none => none)
  | .is_ => (match y with
    | .none => some (.bool (isNone x))
    | .bool b => (match x with
      | .bool a => some (.bool (a == b))
      | _ => none)
    | _ => none)
  | .isnot => (match y with
    | .none => some (.bool (!isNone x))
    | .bool b => (match x with
      | .bool a => some (.bool (!(a == b)))
      | _ => none)
    | _ => none)
def sem1 (o : U1) (x : D) : Option D := match o with
  | .neg => (match x with
    | .int i => some (.int (-i))
    | _ => none)
  | .not_ => (match x with
    | .bool b => some (.bool (!b))
    | _ => none)
def intsOf : List D → Option (List Int)
  | [] => some []
  | .int i :: r => (match intsOf r with
    | some l => some (i :: l)
    | none => none)
  | _ :: _ => none
def boolsOf : List D → Option (List Bool)
  | [] => some []
  | .bool i :: r => (match boolsOf r with
    | some l => some (i :: l)
    | none => none)
  | _ :: _ => none
def rangeD (a b : Int) : List D := (List.range (b - a).toNat).map fun i => .int (a + (i : Nat))
def rangeOk (a b : Int) : Bool := decide (-1000000000 ≤ a) && decide (a ≤ 1000000000) && decide (-1000000000 ≤ b) && decide (b ≤ 1000000000) && decide ((b - a).toNat ≤ line)
def distinct : List Int → List Int
  | [] => []
  | x :: r => if x ∈ r then distinct r else x :: distinct r
def semB (f : BI) (xs : List D) : Option D := match f, xs with
  | .abs, [.int i] => some (.int (if i < 0 then -i else i))
  | .len, [.list xs] => some (.int xs.length)
  | .len, [.tuple xs] => some (.int xs.length)
  | .len, [.str s] => some (.int s.length)
  | .int, [.int i] => some (.int i)
  | .str, [.int i] => if i.natAbs < 2 ^ 1000 ∧ (Str.ofString (toString i)).length ≤ 16777216 then some (.str (toString i)) else none
  | .tuple, [.list xs] => some (.tuple xs)
  | .tuple, [.tuple xs] => some (.tuple xs)
  | .list, [.list xs] => some (.list xs)
  | .list, [.tuple xs] => some (.list xs)
  | .all, [.list xs] => (match boolsOf xs with
    | some bs => some (.bool (bs.all id))
    | none => none)
  | .any, [.list xs] => (match boolsOf xs with
    | some bs => some (.bool (bs.any id))
    | none => none)
  | .sum, [.list xs] => (match intsOf xs with
    | some bs => some (.int bs.sum)
    | none => none)
  | .min, [.int i, .int j] => some (.int (if j < i then j else i))
  | .max, [.int i, .int j] => some (.int (if j > i then j else i))
  | .lenset, [.tuple xs] => (match intsOf xs with
    | some ns => if ns.length ≤ 1000 then some (.int (distinct ns).length) else none
    | none => none)
  | .isInt, [x] => (match x with
    | .int _ => some (.bool true)
    | .bool _ => some (.bool true)
    | _ => some (.bool false))
  | .isBool, [x] => (match x with
    | .bool _ => some (.bool true)
    | _ => some (.bool false))
  | .isTup, [x] => (match x with
    | .tuple _ => some (.bool true)
    | _ => some (.bool false))
  | .isStr, [x] => (match x with
    | .str _ => some (.bool true)
    | _ => some (.bool false))
  | .listR, [.int b] => if rangeOk 0 b then some (.list (rangeD 0 b)) else none
  | .listR, [.int a, .int b] => if rangeOk a b then some (.list (rangeD a b)) else none
  | .tupleR, [.int b] => if rangeOk 0 b then some (.tuple (rangeD 0 b)) else none
  | .tupleR, [.int a, .int b] => if rangeOk a b then some (.tuple (rangeD a b)) else none
  | _, _ => none
def enumD (k : Nat) : List D → List D
  | [] => []
  | x :: r => .tuple [.int (k : Nat), x] :: enumD (k + 1) r
def zipD : List D → List D → List D
  | x :: r, y :: s => .tuple [x, y] :: zipD r s
  | _, _ => []
def semI (k : IK) (xs : List D) : Option (List D) := match k, xs with
  | .seq, [x] => itemsOf x
  | .range, [.int b] => if rangeOk 0 b then some (rangeD 0 b) else none
  | .range, [.int a, .int b] => if rangeOk a b then some (rangeD a b) else none
  | .enum, [x] => (match itemsOf x with
    | some ys => some (enumD 0 ys)
    | none => none)
  | .zip, [.list xs, .list ys] => some (zipD xs ys)
  | .zip, [.tuple xs, .tuple ys] => some (zipD xs ys)
  | _, _ => none

mutual
def asgT : Tg → D → Env → Option Env
  | .nm i, v, env => some (env.set i (some (.d v)))
  | .tup ts, .tuple xs, env => asgTs ts xs env
  | .tup _, _, _ => none
def asgTs : List Tg → List D → Env → Option Env
  | [], [], env => some env
  | t :: ts, x :: xs, env => (match asgT t x env with
    | some env' => asgTs ts xs env'
    | none => none)
  | _, _, _ => none
end
/-- any value to a target: a thing of the heap to a name alone -/
def asgV (t : Tg) (v : Val) (env : Env) : Option Env := match v with
  | .d x => asgT t x env
  | .ref n => (match t with
    | .nm i => some (env.set i (some (.ref n)))
    | .tup _ => none)
def wipeE (env : Env) : List Nat → Env
  | [] => env
  | v :: vs => (wipeE env vs).set v none

/-- what is walked: data, or a thing of the heap as it stands at each turn (its length is not to change) -/
def srcOf (k : IK) (vs : List Val) (h : Hq) : Option (Option Nat × List D) := match vs with
  | [.ref n] => (match viewV h (.ref n) with
    | some d => (match k with
      | .seq => (match semI .seq [d] with
        | some ys => some (some n, ys)
        | none => none)
      | .enum => (match semI .enum [d] with
        | some ys => some (some n, ys)
        | none => none)
      | _ => none)
    | none => none)
  | _ => (match pureL vs with
    | some ds => (match semI k ds with
      | some ys => some (none, ys)
      | none => none)
    | none => none)
def liveAt (h : Hq) (n l i : Nat) : Option D := match viewV h (.ref n) with
  | some (.list ys) => if ys.length = l then ys[i]? else none
  | _ => none
def itemAt (k : IK) (src : Option Nat) (h : Hq) (l i : Nat) (x : D) : Option D := match src with
  | none => some x
  | some n => (match liveAt h n l i with
    | some y => (match k with
      | .seq => some y
      | .enum => some (.tuple [.int (i : Nat), y])
      | _ => none)
    | none => none)
def endAt (src : Option Nat) (h : Hq) (l : Nat) : Bool := match src with
  | none => true
  | some n => (match viewV h (.ref n) with
    | some (.list ys) => ys.length == l
    | _ => false)
/-- a comprehension's turns -/
def loopC (k : IK) (src : Option Nat) (l : Nat) (t : Tg) (cond : Env → Hq → ER) (elt : Env → Hq → ER) (env : Env) : Nat → List D → List D → Hq → Option (List D × Hq)
  | _, [], acc, h => if endAt src h l then some (acc, h) else none
  | i, x :: r, acc, h => (match itemAt k src h l i x with
    | some y => (match asgT t y env with
      | some env' => (match cond env' h with
        | some (.val (.d (.bool true)), h1) => (match elt env' h1 with
          | some (.val (.d y), h2) => loopC k src l t cond elt env (i + 1) r (acc ++ [y]) h2
          | _ => none)
        | some (.val (.d (.bool false)), h1) => loopC k src l t cond elt env (i + 1) r acc h1
        | _ => none)
      | none => none)
    | none => none)

/-- a list that may be changed -/
def isLive (h : Hq) : Val → Bool
  | .ref n => (match h[n]? with
    | some (.lst _) => true
    | _ => false)
  | .d _ => false
def semM (m : MK) (o : Val) (vs : List Val) (h : Hq) : ER := match m, o, vs with
  | .append, .ref n, [.d x] => (match h[n]? with
    | some (.lst xs) => if xs.length < line then some (.val (.d .none), h.set n (.lst (xs ++ [x]))) else none
    | _ => none)
  | .pop, .ref n, [] => (match h[n]? with
    | some (.lst xs) => (match xs[xs.length - 1]? with
      | some y => some (.val (.d y), h.set n (.lst xs.dropLast))
      | none => none)
    | _ => none)
  | .popAt, .ref n, [.d (.int i)] => (match h[n]? with
    | some (.lst xs) => (match ixOf xs.length i with
      | some k => (match xs[k]? with
        | some y => some (.val (.d y), h.set n (.lst (xs.eraseIdx k)))
        | none => none)
      | none => none)
    | _ => none)
  | _, _, _ => none
/-- a list of the heap is data from now on -/
def freeze (v : Val) (h : Hq) : ER := match v with
  | .d x => some (.val (.d x), h)
  | .ref n => (match h[n]? with
    | some (.lst xs) => some (.val (.d (.list xs)), h.set n .dead)
    | _ => none)

def partOf : List Val → Option (Option Int)
  | [] => some none
  | [.d (.int i)] => some (some i)
  | _ => none
def permV (vs : List Val) : List Nat → Option (List Val)
  | [] => some []
  | i :: is => (match vs[i]? with
    | some v => (match permV vs is with
      | some r => some (v :: r)
      | none => none)
    | none => none)
mutual
def evE (F : CallS) : E → Env → Hq → ER
  | .var i, env, h => (match env[i]? with
    | some (some v) => some (.val v, h)
    | _ => none)
  | .con c, _, h => some (.val (.d c), h)
  | .glob _ c, _, h => some (.val (.d c), h)
  | .tup es, env, h => bndA (evEs F es env h) fun vs h1 => (match pureL vs with
    | some ds => if ds.length ≤ line then some (.val (.d (.tuple ds)), h1) else none
    | none => none)
  | .lst es, env, h => bndA (evEs F es env h) fun vs h1 => (match pureL vs with
    | some ds => if ds.length ≤ line then some (.val (.d (.list ds)), h1) else none
    | none => none)
  | .nlst es, env, h => bndA (evEs F es env h) fun vs h1 => (match pureL vs with
    | some ds => if ds.length ≤ line then some (.val (.ref h1.length), h1 ++ [.lst ds]) else none
    | none => none)
  | .nlist e, env, h => bnd (evE F e env h) fun v h1 => (match viewV h1 v with
    | some d => (match itemsOf d with
      | some ds => some (.val (.ref h1.length), h1 ++ [.lst ds])
      | none => none)
    | none => none)
  | .nlistR es, env, h => bndA (evEs F es env h) fun vs h1 => (match pureL vs with
    | some ds => (match semI .range ds with
      | some rs => some (.val (.ref h1.length), h1 ++ [.lst rs])
      | none => none)
    | none => none)
  | .frz e, env, h => bnd (evE F e env h) fun v h1 => freeze v h1
  | .bin o a b, env, h => bnd (evE F a env h) fun x h1 => bnd (evE F b env h1) fun y h2 => (match opnd o h2 x, opnd o h2 y with
    | some dx, some dy => (match sem2 o dx dy with
      | some z => some (.val (.d z), h2)
      | none => none)
    | _, _ => none)
  | .un o a, env, h => bnd (evE F a env h) fun x h1 => (match x with
    | .d dx => (match sem1 o dx with
      | some z => some (.val (.d z), h1)
      | none => none)
    | _ => none)
  | .chain o p a b c, env, h => bnd (evE F a env h) fun x h1 => bnd (evE F b env h1) fun y h2 => (match opnd o h2 x, opnd o h2 y with
    | some dx, some dy => (match sem2 o dx dy with
      | some (.bool true) => bnd (evE F c env h2) fun z h3 => (match opnd p h3 y, opnd p h3 z with
        | some dy, some dz => (match sem2 p dy dz with
          | some r => some (.val (.d r), h3)
          | none => none)
        | _, _ => none)
      | some (.bool false) => some (.val (.d (.bool false)), h2)
      | _ => none)
    | _, _ => none)
  | .and_ a b, env, h => bnd (evE F a env h) fun x h1 => (match x with
    | .d (.bool true) => evE F b env h1
    | .d (.bool false) => some (.val (.d (.bool false)), h1)
    | _ => none)
  | .or_ a b, env, h => bnd (evE F a env h) fun x h1 => (match x with
    | .d (.bool true) => some (.val (.d (.bool true)), h1)
    | .d (.bool false) => evE F b env h1
    | _ => none)
  | .ife c a b, env, h => bnd (evE F c env h) fun x h1 => (match x with
    | .d (.bool true) => evE F a env h1
    | .d (.bool false) => evE F b env h1
    | _ => none)
  | .idx a b, env, h => bnd (evE F a env h) fun x h1 => bnd (evE F b env h1) fun y h2 => (match viewV h2 x, y with
    | some dx, .d (.int i) => (match itemsOf dx with
      | some xs => (match atD xs i with
        | some z => some (.val (.d z), h2)
        | none => none)
      | none => none)
    | _, _ => none)
  | .slice a lo hi, env, h => bnd (evE F a env h) fun x h1 => bndA (evEs F lo env h1) fun l h2 => (match partOf l with
    | some pl => bndA (evEs F hi env h2) fun u h3 => (match partOf u with
      | some pu => (match viewV h3 x with
        | some (.list xs) => some (.val (.d (.list (cutD xs pl pu))), h3)
        | some (.tuple xs) => some (.val (.d (.tuple (cutD xs pl pu))), h3)
        | _ => none)
      | none => none)
    | none => none)
  | .bi f es, env, h => bndA (evEs F es env h) fun vs h1 => (match viewL h1 vs with
    | some ds => (match semB f ds with
      | some z => some (.val (.d z), h1)
      | none => none)
    | none => none)
  | .call f es, env, h => bndA (evEs F es env h) fun vs h1 => F f vs h1
  | .callk f es ks perm, env, h => bndA (evEs F es env h) fun vs h1 => bndA (evEs F ks env h1) fun ws h2 => (match permV (vs ++ ws) perm with
    | some us => F f us h2
    | none => none)
  | .meth m o es, env, h => bnd (evE F o env h) fun x h1 => (match isLive h1 x with
    | true => bndA (evEs F es env h1) fun vs h2 => semM m x vs h2
    | false => none)
  | .comp elt t k its ifs own, env, h => bndA (evEs F its env h) fun vs h1 => (match srcOf k vs h1 with
    | some (src, items) => (match loopC k src items.length t (evTs F ifs) (evE F elt) (wipeE env own) 0 items [] h1 with
        | some (ys, h2) => some (.val (.d (.list ys)), h2)
        | none => none)
    | none => none)
  | .refused e, env, h => (match evE F e env h with
    | some (.val _, h1) => some (.val (.d (.str ⟨#[]⟩)), h1)
    | some (.exc 0 p, h1) => some (.val (.d p), h1)
    | _ => none)
/-- a clause's tests: none, or one -/
def evTs (F : CallS) : List E → Env → Hq → ER
  | [], _, h => some (.val (.d (.bool true)), h)
  | e :: _, env, h => evE F e env h
def evEs (F : CallS) : List E → Env → Hq → AR
  | [], _, h => some (.vals [], h)
  | e :: es, env, h => consA (evE F e env h) fun h1 => evEs F es env h1
end

/-- a for's turns -/
def loopF (k : IK) (src : Option Nat) (l : Nat) (t : Tg) (body : Env → Hq → SR) : Nat → List D → Env → Hq → SR
  | _, [], env, h => if endAt src h l then some (.nx env, h) else none
  | i, x :: r, env, h => (match itemAt k src h l i x with
    | some y => (match asgT t y env with
      | some env' => (match body env' h with
        | some (.nx e, h1) => loopF k src l t body (i + 1) r e h1
        | some (.cont e, h1) => loopF k src l t body (i + 1) r e h1
        | some (.brk e, h1) => some (.nx e, h1)
        | some (.ret v, h1) => some (.ret v, h1)
        | some (.exc c p, h1) => some (.exc c p, h1)
        | none => none)
      | none => none)
    | none => none)
def loopW (cond : Env → Hq → ER) (body : Env → Hq → SR) : Nat → Env → Hq → SR
  | 0, _, _ => none
  | n + 1, env, h => (match cond env h with
    | some (.val (.d (.bool true)), h0) => (match body env h0 with
      | some (.nx e, h1) => loopW cond body n e h1
      | some (.cont e, h1) => loopW cond body n e h1
      | some (.brk e, h1) => some (.nx e, h1)
      | some (.ret v, h1) => some (.ret v, h1)
      | some (.exc c p, h1) => some (.exc c p, h1)
      | none => none)
    | some (.val (.d (.bool false)), h0) => some (.nx env, h0)
    | some (.exc c p, h0) => some (.exc c p, h0)
    | _ => none)
def WB : Nat := 1000000
def sB (r : ER) (f : Val → Hq → SR) : SR := match r with
  | some (.val v, h) => f v h
  | some (.exc c p, h) => some (.exc c p, h)
  | none => none
def sBA (r : AR) (f : List Val → Hq → SR) : SR := match r with
  | some (.vals v, h) => f v h
  | some (.exc c p, h) => some (.exc c p, h)
  | none => none
def setAll (env : Env) : List Nat → List Val → Option Env
  | [], [] => some env
  | i :: is, v :: vs => setAll (env.set i (some v)) is vs
  | _, _ => none
def augI (o : B2) (i j : Int) : Option Int := match o with
  | .add => some (i + j)
  | .sub => some (i - j)
  | .mul => if mulOk i j then some (i * j) else none
  | _ => none
mutual
def evS (F : CallS) : S → Env → Hq → SR
  | .asg t e, env, h => sB (evE F e env h) fun v h1 => (match asgV t v env with
    | some env' => some (.nx env', h1)
    | none => none)
  | .par is es, env, h => sBA (evEs F es env h) fun vs h1 => (match setAll env is vs with
    | some env' => some (.nx env', h1)
    | none => none)
  | .unp is es, env, h => sBA (evEs F es env h) fun vs h1 => (match setAll env is vs with
    | some env' => if vs.length ≤ line then some (.nx env', h1) else none
    | none => none)
  | .setix o i e, env, h => sB (evE F e env h) fun v h1 => sB (evE F o env h1) fun x h2 => sB (evE F i env h2) fun k h3 => (match v, x, k with
    | .d v, .ref n, .d (.int k) => (match h3[n]? with
      | some (.lst xs) => (match ixOf xs.length k with
        | some j => some (.nx env, h3.set n (.lst (xs.set j v)))
        | none => none)
      | _ => none)
    | _, _, _ => none)
  | .swapix _ _ _, _, _ => none
  | .aug i o e, env, h => (match env[i]? with
    | some (some (.d (.int x))) => sB (evE F e env h) fun v h1 => (match v with
      | .d (.int y) => (match augI o x y with
        | some z => some (.nx (env.set i (some (.d (.int z)))), h1)
        | none => none)
      | _ => none)
    | _ => none)
  | .expr e, env, h => sB (evE F e env h) fun _ h1 => some (.nx env, h1)
  | .ret e, env, h => sB (evE F e env h) fun v h1 => some (.ret v, h1)
  | .retN, _, h => some (.ret (.d .none), h)
  | .if_ c a b, env, h => sB (evE F c env h) fun v h1 => (match v with
    | .d (.bool true) => evSs F a env h1
    | .d (.bool false) => evSs F b env h1
    | _ => none)
  | .for_ t k its body, env, h => sBA (evEs F its env h) fun vs h1 => (match srcOf k vs h1 with
    | some (src, items) => loopF k src items.length t (evSs F body) 0 items env h1
    | none => none)
  | .while_ c body, env, h => loopW (evE F c) (evSs F body) WB env h
  | .brk, env, h => some (.brk env, h)
  | .cont, env, h => some (.cont env, h)
  | .pass, env, h => some (.nx env, h)
  | .raise c e, env, h => sB (evE F e env h) fun v h1 => (match v with
    | .d p => some (.exc c p, h1)
    | _ => none)
def evSs (F : CallS) : List S → Env → Hq → SR
  | [], env, h => some (.nx env, h)
  | s :: r, env, h => (match evS F s env h with
    | some (.nx e, h1) => evSs F r e h1
    | x => x)
end

/-- a def: how many parameters, how many names, the body -/
structure Fn where
  pars : Nat
  names : Nat
  body : List S
def startE (n : Nat) (vs : List Val) : Env := vs.map some ++ List.replicate (n - vs.length) none
/-- behind a call the new things are gone, unless one of them is handed back -/
def endF (h : Hq) (r : SR) : ER := match r with
  | some (.nx _, h1) => some (.val (.d .none), h1.take h.length)
  | some (.ret (.d x), h1) => some (.val (.d x), h1.take h.length)
  | some (.ret (.ref n), h1) => if n < h.length then some (.val (.ref n), h1.take h.length) else some (.val (.ref n), h1)
  | some (.exc c p, h1) => some (.exc c p, h1.take h.length)
  | _ => none
def callF (fns : List Fn) : Nat → CallS
  | 0, _, _, _ => none
  | k + 1, f, vs, h => (match fns[f]? with
    | some fn => if vs.length = fn.pars then endF h (evSs (callF fns k) fn.body (startE fn.names vs) h) else none
    | none => none)
end Ev
end

section
set_option Elab.async false
set_option linter.all false
set_option maxRecDepth 100000
set_option autoImplicit false
/-! how the language's values stand in the heap -/
namespace Ev
open PySem PySem.Spec PyProof.Rows L2
variable {O : Hp}

mutual
/-- the data d stand at v, in the part P of the heap that nobody changes -/
inductive Rp (K : PySem.W.Frag) (P : Hp) : V → D → Prop
  | non : Rp K P .non .none
  | bl (b : Bool) : Rp K P (.bl b) (.bool b)
  | int (i : Int) : Rp K P (.int i) (.int i)
  | str (x : Str) : x.length ≤ sizeLine → Rp K P (.str x) (.str x)
  | lst {a : Addr} {xs : List V} {ds : List D} : P a = some (.lst xs) → xs.length ≤ sizeLine → RpAll K P xs ds → Rp K P (.ref a) (.list ds)
  | tup {a : Addr} {xs : List V} {ds : List D} : SqT K P a xs → xs.length ≤ sizeLine → RpAll K P xs ds → Rp K P (.ref a) (.tuple ds)
inductive RpAll (K : PySem.W.Frag) (P : Hp) : List V → List D → Prop
  | nil : RpAll K P [] []
  | cons {v : V} {vs : List V} {d : D} {ds : List D} : Rp K P v d → RpAll K P vs ds → RpAll K P (v :: vs) (d :: ds)
end
section
variable {K : PySem.W.Frag} {P P' H : Hp}
theorem same_sqT {a : Addr} {xs : List V} (s : Same P P') (h : SqT K P a xs) : SqT K P' a xs := by
  rcases h with (h | ⟨o, h⟩) | h
  · exact .inl (.inl (s _ _ h))
  · exact .inl (.inr ⟨o, s _ _ h⟩)
  · exact .inr h
theorem same_sqL {a : Addr} {xs : List V} (s : Same P P') (h : SqL K P a xs) : SqL K P' a xs := s.seq h
mutual
theorem Rp.mono (s : Same P P') : ∀ {v : V} {d : D}, Rp K P v d → Rp K P' v d
  | _, _, .non => .non
  | _, _, .bl b => .bl b
  | _, _, .int i => .int i
  | _, _, .str x h => .str x h
  | _, _, .lst a b c => .lst (s _ _ a) b (RpAll.mono s c)
  | _, _, .tup a b c => .tup (same_sqT s a) b (RpAll.mono s c)
theorem RpAll.mono (s : Same P P') : ∀ {v : List V} {d : List D}, RpAll K P v d → RpAll K P' v d
  | _, _, .nil => .nil
  | _, _, .cons a b => .cons (Rp.mono s a) (RpAll.mono s b)
end
mutual
theorem Rp.dp (s : Same P H) : ∀ {v : V} {d : D}, Rp K P v d → Dp K H v d
  | _, _, .non => .non
  | _, _, .bl b => .bl b
  | _, _, .int i => .int i
  | _, _, .str x _ => .str x
  | _, _, .lst a b c => .lst (.inl (.inl (s _ _ a))) (RpAll.dp s c)
  | _, _, .tup a b c => .tup (same_sqT s a) (RpAll.dp s c)
theorem RpAll.dp (s : Same P H) : ∀ {v : List V} {d : List D}, RpAll K P v d → DpAll K H v d
  | _, _, .nil => .nil
  | _, _, .cons a b => .cons (Rp.dp s a) (RpAll.dp s b)
end
mutual
theorem Rp.plain : ∀ {v : V} {d : D}, Rp K P v d → d.plain = true
  | _, _, .non => by simp only [PyData.plain]
  | _, _, .bl b => by simp only [PyData.plain]
  | _, _, .int i => by simp only [PyData.plain]
  | _, _, .str x _ => by simp only [PyData.plain]
  | _, _, .lst a b c => by simp only [PyData.plain]; exact RpAll.plain c
  | _, _, .tup a b c => by simp only [PyData.plain]; exact RpAll.plain c
theorem RpAll.plain : ∀ {v : List V} {d : List D}, RpAll K P v d → PyData.plainAll d = true
  | _, _, .nil => by simp only [PyData.plainAll]
  | _, _, .cons a b => by simp only [PyData.plainAll, Rp.plain a, RpAll.plain b, Bool.and_self]
end
theorem RpAll.length : ∀ {v : List V} {d : List D}, RpAll K P v d → v.length = d.length
  | _, _, .nil => rfl
  | _, _, .cons a b => by simp only [List.length_cons, RpAll.length b]
theorem RpAll.get : ∀ {v : List V} {d : List D} {i : Nat} {x : D}, RpAll K P v d → d[i]? = some x → ∃ y, v[i]? = some y ∧ Rp K P y x
  | _, _, _, _, .nil, h => by simp at h
  | _, _, 0, _, .cons a b, h => by
    simp only [List.getElem?_cons_zero, Option.some.injEq] at h ⊢
    exact ⟨_, rfl, h ▸ a⟩
  | _, _, i + 1, _, .cons a b, h => by
    simp only [List.getElem?_cons_succ] at h ⊢
    exact RpAll.get b h
theorem RpAll.get' : ∀ {v : List V} {d : List D} {i : Nat} {y : V}, RpAll K P v d → v[i]? = some y → ∃ x, d[i]? = some x ∧ Rp K P y x
  | _, _, _, _, .nil, h => by simp at h
  | _, _, 0, _, .cons a b, h => by
    simp only [List.getElem?_cons_zero, Option.some.injEq] at h ⊢
    exact ⟨_, rfl, h ▸ a⟩
  | _, _, i + 1, _, .cons a b, h => by
    simp only [List.getElem?_cons_succ] at h ⊢
    exact RpAll.get' b h
theorem RpAll.append : ∀ {v w : List V} {d e : List D}, RpAll K P v d → RpAll K P w e → RpAll K P (v ++ w) (d ++ e)
  | _, _, _, _, .nil, h => h
  | _, _, _, _, .cons a b, h => .cons a (RpAll.append b h)
theorem RpAll.take : ∀ {v : List V} {d : List D} (n : Nat), RpAll K P v d → RpAll K P (v.take n) (d.take n)
  | _, _, 0, _ => .nil
  | _, _, _ + 1, .nil => .nil
  | _, _, n + 1, .cons a b => .cons a (RpAll.take n b)
theorem RpAll.drop : ∀ {v : List V} {d : List D} (n : Nat), RpAll K P v d → RpAll K P (v.drop n) (d.drop n)
  | _, _, 0, h => h
  | _, _, _ + 1, .nil => .nil
  | _, _, n + 1, .cons a b => RpAll.drop n b
theorem RpAll.set : ∀ {v : List V} {d : List D} {y : V} {x : D} (n : Nat), RpAll K P v d → Rp K P y x → RpAll K P (v.set n y) (d.set n x)
  | _, _, _, _, _, .nil, _ => .nil
  | _, _, _, _, 0, .cons a b, h => .cons h b
  | _, _, _, _, n + 1, .cons a b, h => .cons a (RpAll.set n b h)
theorem RpAll.erase : ∀ {v : List V} {d : List D} (n : Nat), RpAll K P v d → RpAll K P (v.eraseIdx n) (d.eraseIdx n)
  | _, _, _, .nil => .nil
  | _, _, 0, .cons a b => b
  | _, _, n + 1, .cons a b => .cons a (RpAll.erase n b)
theorem RpAll.dropLast {v : List V} {d : List D} (h : RpAll K P v d) : RpAll K P v.dropLast d.dropLast := by
  rw [List.dropLast_eq_take, List.dropLast_eq_take, h.length]
  exact h.take _
theorem RpAll.ints : ∀ {v : List V} {d : List D} {ns : List Int}, RpAll K P v d → intsOf d = some ns → v = ns.map V.int ∧ d = ns.map PyData.int
  | _, _, ns, .nil, h => by
    simp only [intsOf, Option.some.injEq] at h
    subst h
    exact ⟨rfl, rfl⟩
  | _, _, ns, .cons a b, h => by
    cases a with
    | int i =>
      simp only [intsOf] at h
      split at h
      · rename_i l hl
        simp only [Option.some.injEq] at h
        subst h
        obtain ⟨e1, e2⟩ := RpAll.ints b hl
        subst e1
        subst e2
        exact ⟨rfl, rfl⟩
      · cases h
    | _ => simp [intsOf] at h
theorem RpAll.bools : ∀ {v : List V} {d : List D} {ns : List Bool}, RpAll K P v d → boolsOf d = some ns → v = ns.map V.bl
  | _, _, ns, .nil, h => by
    simp only [boolsOf, Option.some.injEq] at h
    subst h
    rfl
  | _, _, ns, .cons a b, h => by
    cases a with
    | bl i =>
      simp only [boolsOf] at h
      split at h
      · rename_i l hl
        simp only [Option.some.injEq] at h
        subst h
        have e1 := RpAll.bools b hl
        subst e1
        rfl
      · cases h
    | _ => simp [boolsOf] at h
theorem RpAll.of_ints : ∀ (ns : List Int), RpAll K P (ns.map V.int) (ns.map PyData.int)
  | [] => .nil
  | n :: r => .cons (.int n) (RpAll.of_ints r)
end

/-- what the head tells: the written part, the tables of code objects, the classes of errors and their fields -/
structure FI where
  a : Addr
  fd : FuncData
  ps : List Str
structure GI where
  K : PySem.W.Frag
  T : List (Addr × Str)
  exc : Nat → Addr
  fld : Nat → Str
  fi : Nat → FI

/-- a list of the written part -/
def KL (K : PySem.W.Frag) (a : Addr) (xs : List V) : Prop := ∃ (o : Obj) (its : Array Value) (n : Nat), K.lookup a = some o ∧ o.cls = .type "list" ∧ o.dict = none ∧ o.data = .seq its n ∧ its.size ≤ sizeLine ∧ Vals xs its.toList
def ObOk (K : PySem.W.Frag) (P H : Hp) (a : Addr) : Ob → Prop
  | .lst ds => P a = none ∧ ∃ xs, H a = some (.lst xs) ∧ xs.length ≤ sizeLine ∧ RpAll K P xs ds
  | .ro true ds => ∃ xs, KL K a xs ∧ xs.length ≤ sizeLine ∧ RpAll K P xs ds
  | .ro false ds => ∃ xs, Rd H a (.lst xs) ∧ xs.length ≤ sizeLine ∧ RpAll K P xs ds
  | .dead => True
def Wr : Option Ob → Prop
  | some (.lst _) => True
  | _ => False
def Rb : Option Ob → Prop
  | some (.lst _) => True
  | some (.ro false _) => True
  | _ => False
/-- the heap: P what nobody changes, r where the small heap's things stand -/
structure RelH (G : GI) (O P H : Hp) (r : List Addr) (h : Hq) : Prop where
  sub : Same P H
  notab : ∀ b ps, P b ≠ some (.tbl ps)
  len : r.length = h.length
  obj : ∀ (n : Nat) (a : Addr) (o : Ob), r[n]? = some a → h[n]? = some o → ObOk G.K P H a o
  inj : ∀ (n m : Nat) (a : Addr), r[n]? = some a → r[m]? = some a → Wr (h[n]?) → Rb (h[m]?) → n = m
  tabs : LamX.Tabs G.T H
  out : ∀ (b : Addr) (o : HO), O b = some o → H b = some o ∧ P b = none
  far : ∀ (n : Nat) (b : Addr), r[n]? = some b → Rb (h[n]?) → O b = none
  nocode : ∀ (b : Addr) (o : HO), O b = some o → ∃ xs, o = .lst xs
def RepV (G : GI) (P : Hp) (r : List Addr) (x : V) : Val → Prop
  | .d d => Rp G.K P x d
  | .ref n => ∃ a, x = .ref a ∧ r[n]? = some a
def RepL (G : GI) (P : Hp) (r : List Addr) : List V → List Val → Prop := Paired fun x v => RepV G P r x v
structure RelE (G : GI) (P : Hp) (r : List Addr) (s : L2.St) (env : Env) : Prop where
  le : env.length ≤ s.length
  at_ : ∀ (i : Nat) (v : Val), env[i]? = some (some v) → ∃ x : V, s[i]? = some (some x) ∧ RepV G P r x v
/-- later: what nobody changes is there, the small heap's things stand where they stood -/
structure Fut (P : Hp) (r : List Addr) (P' : Hp) (r' : List Addr) : Prop where
  same : Same P P'
  more : ∃ t, r' = r ++ t
section
variable {G : GI} {P P1 P2 H H1 : Hp} {r r1 r2 : List Addr} {h : Hq}
theorem Fut.refl : Fut P r P r := ⟨Same.refl P, [], by simp⟩
theorem Fut.trans (a : Fut P r P1 r1) (b : Fut P1 r1 P2 r2) : Fut P r P2 r2 := by
  obtain ⟨s, t, e⟩ := a
  obtain ⟨s', t', e'⟩ := b
  exact ⟨s.trans s', t ++ t', by rw [e', e, List.append_assoc]⟩
theorem Fut.at (a : Fut P r P1 r1) {n : Nat} {x : Addr} (e : r[n]? = some x) : r1[n]? = some x := by
  obtain ⟨_, t, rfl⟩ := a
  have h := List.getElem?_eq_some_iff.mp e
  rw [List.getElem?_append_left h.1]
  exact e
theorem RepV.fut (a : Fut P r P1 r1) : ∀ {x : V} {v : Val}, RepV G P r x v → RepV G P1 r1 x v
  | _, .d _, h => Rp.mono a.same h
  | _, .ref _, ⟨b, e, q⟩ => ⟨b, e, a.at q⟩
theorem RepL.fut (a : Fut P r P1 r1) {xs : List V} {vs : List Val} (h : RepL G P r xs vs) : RepL G P1 r1 xs vs := Paired.mapP h fun _ _ q => q.fut a
theorem RelE.fut (a : Fut P r P1 r1) {s : L2.St} {env : Env} (h : RelE G P r s env) : RelE G P1 r1 s env := ⟨h.le, fun i v e => by
  obtain ⟨x, e1, q⟩ := h.at_ i v e
  exact ⟨x, e1, q.fut a⟩⟩
theorem ObOk.sq {a : Addr} {o : Ob} {ds : List D} (h : ObOk G.K P H a o) (e : o = .lst ds ∨ ∃ k, o = .ro k ds) : ∃ xs, SqL G.K H a xs ∧ xs.length ≤ sizeLine ∧ RpAll G.K P xs ds := by
  rcases e with rfl | ⟨k, rfl⟩
  · obtain ⟨_, xs, h1, h2, h3⟩ := h
    exact ⟨xs, .inl (.inl h1), h2, h3⟩
  · cases k with
    | true =>
      obtain ⟨xs, h1, h2, h3⟩ := h
      exact ⟨xs, .inr h1, h2, h3⟩
    | false =>
      obtain ⟨xs, h1, h2, h3⟩ := h
      exact ⟨xs, .inl h1, h2, h3⟩
theorem view_ref {n : Nat} {d : D} (e : viewV h (.ref n) = some d) : ∃ ds o, d = .list ds ∧ h[n]? = some o ∧ (o = .lst ds ∨ ∃ k, o = .ro k ds) := by
  simp only [viewV] at e
  split at e
  · rename_i xs hn
    exact ⟨xs, _, (Option.some.inj e).symm, hn, .inl rfl⟩
  · rename_i k xs hn
    exact ⟨xs, _, (Option.some.inj e).symm, hn, .inr ⟨k, rfl⟩⟩
  · cases e
/-- what is seen of a value -/
theorem view_dp {x : V} {v : Val} {d : D} (R : RelH G O P H r h) (q : RepV G P r x v) (e : viewV h v = some d) : Dp G.K H x d := by
  cases v with
  | d y =>
    simp only [viewV, Option.some.injEq] at e
    subst e
    exact Rp.dp R.sub q
  | ref n =>
    obtain ⟨a, rfl, ha⟩ := q
    obtain ⟨ds, o, rfl, hn, ho⟩ := view_ref e
    obtain ⟨xs, h1, _, h3⟩ := (R.obj n a _ ha hn).sq ho
    exact .lst h1 (RpAll.dp R.sub h3)
/-- a list or a tuple that is seen: where it stands, its items -/
theorem view_items {x : V} {v : Val} {d : D} {ds : List D} (R : RelH G O P H r h) (q : RepV G P r x v) (e : viewV h v = some d) (hd : itemsOf d = some ds) :
    ∃ a xs, x = .ref a ∧ xs.length ≤ sizeLine ∧ RpAll G.K P xs ds ∧ ((d = .list ds ∧ SqL G.K H a xs) ∨ (d = .tuple ds ∧ SqT G.K H a xs)) := by
  cases v with
  | d y =>
    simp only [viewV, Option.some.injEq] at e
    subst e
    cases q with
    | lst a b c =>
      simp only [itemsOf, Option.some.injEq] at hd
      subst hd
      exact ⟨_, _, rfl, b, c, .inl ⟨rfl, .inl (.inl (R.sub _ _ a))⟩⟩
    | tup a b c =>
      simp only [itemsOf, Option.some.injEq] at hd
      subst hd
      exact ⟨_, _, rfl, b, c, .inr ⟨rfl, same_sqT R.sub a⟩⟩
    | _ => simp [itemsOf] at hd
  | ref n =>
    obtain ⟨a, rfl, ha⟩ := q
    obtain ⟨es, o, rfl, hn, ho⟩ := view_ref e
    simp only [itemsOf, Option.some.injEq] at hd
    subst hd
    obtain ⟨xs, h1, h2, h3⟩ := (R.obj n a _ ha hn).sq ho
    exact ⟨_, _, rfl, h2, h3, .inl ⟨rfl, h1⟩⟩
theorem notab_upd {p : Addr} {o : HO} (hn : ∀ b ps, P b ≠ some (.tbl ps)) (ho : ∀ ps, o ≠ .tbl ps) : ∀ b ps, upd P p o b ≠ some (.tbl ps) := fun b ps e => by
  by_cases hb : b = p
  · subst hb
    rw [upd_same] at e
    exact ho ps (Option.some.inj e)
  · rw [upd_ne hb] at e
    exact hn b ps e
theorem same_upd {p : Addr} {o : HO} (hp : H p = none) : Same H (upd H p o) := fun b u e => by rw [upd_ne (ne_of_none e hp)]; exact e
theorem same_upd2 {p : Addr} {o : HO} (s : Same P H) : Same (upd P p o) (upd H p o) := fun b u e => by
  by_cases hb : b = p
  · subst hb
    rw [upd_same] at e ⊢
    exact e
  · rw [upd_ne hb] at e ⊢
    exact s _ _ e
theorem RelH.fresh (R : RelH G O P H r h) {p : Addr} (hp : H p = none) : P p = none := by
  cases q : P p with
  | none => rfl
  | some u => rw [R.sub _ _ q] at hp; cases hp
theorem Rd.same {a : Addr} {u : HO} (s : Same H H1) (x : Rd H a u) : Rd H1 a u := by
  rcases x with x | ⟨o, x⟩
  · exact .inl (s _ _ x)
  · exact .inr ⟨o, s _ _ x⟩
theorem Rd.some {a : Addr} {u : HO} (x : Rd H a u) : H a ≠ none := by
  rcases x with x | ⟨o, x⟩ <;> rw [x] <;> simp
/-- a new thing that nobody will change -/
theorem RelH.newP (R : RelH G O P H r h) {p : Addr} {o : HO} (hp : H p = none) (ho : ∀ ps, o ≠ .tbl ps) : RelH G O (upd P p o) (upd H p o) r h ∧ Fut P r (upd P p o) r := by
  have sH := same_upd (o := o) hp
  have sP : Same P (upd P p o) := same_upd (R.fresh hp)
  refine ⟨⟨same_upd2 R.sub, notab_upd R.notab ho, R.len, fun n a ob e1 e2 => ?_, R.inj, R.tabs.ext sH, fun b o e => ?_, R.far, R.nocode⟩, sP, [], by simp⟩
  rotate_left
  · obtain ⟨e1, e2⟩ := R.out b o e
    exact ⟨sH _ _ e1, by rw [upd_ne (ne_of_none e1 hp)]; exact e2⟩
  have q := R.obj n a ob e1 e2
  cases ob with
  | lst ds =>
    obtain ⟨h0, xs, h1, h2, h3⟩ := q
    have hne : a ≠ p := ne_of_none h1 hp
    exact ⟨by rw [upd_ne hne]; exact h0, xs, sH _ _ h1, h2, RpAll.mono sP h3⟩
  | ro k ds =>
    cases k with
    | true =>
      obtain ⟨xs, h1, h2, h3⟩ := q
      exact ⟨xs, h1, h2, RpAll.mono sP h3⟩
    | false =>
      obtain ⟨xs, h1, h2, h3⟩ := q
      exact ⟨xs, Rd.same sH h1, h2, RpAll.mono sP h3⟩
  | dead => trivial
/-- a new list that may be changed -/
theorem RelH.newL (R : RelH G O P H r h) {p : Addr} {xs : List V} {ds : List D} (hp : H p = none) (hl : xs.length ≤ sizeLine) (hx : RpAll G.K P xs ds) : RelH G O P (upd H p (.lst xs)) (r ++ [p]) (h ++ [.lst ds]) ∧ Fut P r P (r ++ [p]) := by
  have sH := same_upd (o := .lst xs) hp
  refine ⟨⟨R.sub.trans sH, R.notab, by rw [List.length_append, List.length_append, R.len]; rfl, fun n a ob e1 e2 => ?_, fun n m a e1 e2 w1 w2 => ?_, R.tabs.ext sH, fun b o e => ⟨sH _ _ (R.out b o e).1, (R.out b o e).2⟩, fun n b e1 w => ?_, R.nocode⟩, Same.refl P, [p], rfl⟩
  rotate_right
  · by_cases hn : n < r.length
    · rw [List.getElem?_append_left hn] at e1
      rw [List.getElem?_append_left (by rw [← R.len]; exact hn)] at w
      exact R.far n b e1 w
    · have hn' : r.length ≤ n := Nat.le_of_not_lt hn
      rw [List.getElem?_append_right hn'] at e1
      obtain ⟨k, hk⟩ : ∃ k, n - r.length = k := ⟨_, rfl⟩
      rw [hk] at e1
      cases k with
      | succ k => simp at e1
      | zero =>
        simp only [List.getElem?_cons_zero, Option.some.injEq] at e1
        subst e1
        cases q : O p with
        | none => rfl
        | some u => rw [(R.out p u q).1] at hp; cases hp
  · by_cases hn : n < r.length
    · rw [List.getElem?_append_left hn] at e1
      rw [List.getElem?_append_left (by rw [← R.len]; exact hn)] at e2
      have q := R.obj n a ob e1 e2
      cases ob with
      | lst ds =>
        obtain ⟨h0, xs, h1, h2, h3⟩ := q
        exact ⟨h0, xs, sH _ _ h1, h2, h3⟩
      | ro k ds =>
        cases k with
        | true => exact q
        | false =>
          obtain ⟨xs, h1, h2, h3⟩ := q
          exact ⟨xs, Rd.same sH h1, h2, h3⟩
      | dead => trivial
    · have hn' : r.length ≤ n := Nat.le_of_not_lt hn
      rw [List.getElem?_append_right hn'] at e1
      rw [List.getElem?_append_right (by rw [← R.len]; exact hn'), ← R.len] at e2
      obtain ⟨k, hk⟩ : ∃ k, n - r.length = k := ⟨_, rfl⟩
      rw [hk] at e1 e2
      cases k with
      | succ k => simp at e1
      | zero =>
        simp only [List.getElem?_cons_zero, Option.some.injEq] at e1 e2
        subst e1
        subst e2
        exact ⟨R.fresh hp, xs, upd_same, hl, hx⟩
  · have key : ∀ {k : Nat}, (r ++ [p])[k]? = some a → Rb ((h ++ [Ob.lst ds])[k]?) → (k < r.length ∧ r[k]? = some a ∧ (h ++ [Ob.lst ds])[k]? = h[k]? ∧ a ≠ p) ∨ (k = r.length ∧ a = p) := fun {k} e w => by
      by_cases hn : k < r.length
      · rw [List.getElem?_append_left hn] at e
        have e3 : (h ++ [Ob.lst ds])[k]? = h[k]? := List.getElem?_append_left (by rw [← R.len]; exact hn)
        rw [e3] at w
        refine .inl ⟨hn, e, e3, ?_⟩
        cases e4 : h[k]? with
        | none => rw [e4] at w; exact w.elim
        | some ob =>
          rw [e4] at w
          have q := R.obj k a ob e e4
          cases ob with
          | lst ds =>
            obtain ⟨h0, xs, h1, h2, h3⟩ := q
            exact ne_of_none h1 hp
          | ro b ds =>
            cases b with
            | true => exact w.elim
            | false =>
              obtain ⟨xs, h1, h2, h3⟩ := q
              exact fun z => Rd.some h1 (by rw [z]; exact hp)
          | dead => exact w.elim
      · have hn' : r.length ≤ k := Nat.le_of_not_lt hn
        rw [List.getElem?_append_right hn'] at e
        obtain ⟨j, hj⟩ : ∃ j, k - r.length = j := ⟨_, rfl⟩
        rw [hj] at e
        cases j with
        | succ j => simp at e
        | zero =>
          simp only [List.getElem?_cons_zero, Option.some.injEq] at e
          exact .inr ⟨by omega, e.symm⟩
    have w1' : Rb ((h ++ [Ob.lst ds])[n]?) := by
      revert w1
      cases (h ++ [Ob.lst ds])[n]? with
      | none => exact fun z => z.elim
      | some o => cases o <;> first | exact fun z => z | exact fun z => z.elim
    rcases key e1 w1' with ⟨a1, a2, a3, a4⟩ | ⟨a1, a2⟩
    · rcases key e2 w2 with ⟨b1, b2, b3, b4⟩ | ⟨b1, b2⟩
      · rw [a3] at w1
        rw [b3] at w2
        exact R.inj n m a a2 b2 w1 w2
      · exact absurd b2 a4
    · rcases key e2 w2 with ⟨b1, b2, b3, b4⟩ | ⟨b1, b2⟩
      · exact absurd a2 b4
      · omega
theorem wr_of {o : Option Ob} {ds : List D} (e : o = some (.lst ds)) : Wr o := by rw [e]; trivial
theorem rb_of {o : Option Ob} {ds : List D} (e : o = some (.lst ds)) : Rb o := by rw [e]; trivial
theorem set_get {α : Type} {l : List α} {n m : Nat} {x y : α} (e : (l.set n x)[m]? = some y) : (m = n ∧ x = y) ∨ (m ≠ n ∧ l[m]? = some y) := by
  by_cases hm : m = n
  · subst hm
    by_cases hl : m < l.length
    · rw [List.getElem?_set_self hl] at e
      exact .inl ⟨rfl, Option.some.inj e⟩
    · rw [List.getElem?_eq_none (by simpa using hl)] at e
      cases e
  · rw [List.getElem?_set_ne (Ne.symm hm)] at e
    exact .inr ⟨hm, e⟩
/-- a list is changed -/
theorem RelH.put (R : RelH G O P H r h) {n : Nat} {a : Addr} {ds es : List D} {ys : List V} (hr : r[n]? = some a) (hn : h[n]? = some (.lst ds)) (hl : ys.length ≤ sizeLine) (hy : RpAll G.K P ys es) : RelH G O P (upd H a (.lst ys)) r (h.set n (.lst es)) := by
  obtain ⟨h0, xs, h1, _, _⟩ := R.obj n a _ hr hn
  have nP : ∀ b u, P b = some u → b ≠ a := fun b u e => ne_of_none e h0
  have inj' : ∀ m, r[m]? = some a → Rb (h[m]?) → m = n := fun m e w => (R.inj n m a hr e (wr_of hn) w).symm
  have nt : ∀ (b : Addr) (u : HO), H b = some u → (∀ zs, u ≠ .lst zs) → upd H a (.lst ys) b = some u := fun b u e q => by
    rw [upd_ne (fun z => q xs (by rw [z, h1] at e; exact (Option.some.inj e).symm))]
    exact e
  refine ⟨fun b u e => by rw [upd_ne (nP b u e)]; exact R.sub _ _ e, R.notab, by rw [List.length_set]; exact R.len, fun m b ob e1 e2 => ?_, fun m k b e1 e2 w1 w2 => ?_, fun p hp => ?_, fun b o e => ?_, fun m b e1 w => ?_, R.nocode⟩
  rotate_right 2
  · have nb : b ≠ a := fun z => by rw [z, R.far n a hr (rb_of hn)] at e; cases e
    exact ⟨by rw [upd_ne nb]; exact (R.out b o e).1, (R.out b o e).2⟩
  · refine R.far m b e1 ?_
    cases e : (h.set n (.lst es))[m]? with
    | none => rw [e] at w; exact w.elim
    | some o =>
      rcases set_get e with ⟨rfl, _⟩ | ⟨_, e'⟩
      · exact rb_of hn
      · rw [e']; rw [e] at w; exact w
  · rcases set_get e2 with ⟨rfl, rfl⟩ | ⟨hm, e2⟩
    · rw [hr] at e1
      cases e1
      exact ⟨h0, ys, upd_same, hl, hy⟩
    · have q := R.obj m b ob e1 e2
      have ne : Rb (h[m]?) → b ≠ a := fun w z => hm (inj' m (by rw [← z]; exact e1) w)
      cases ob with
      | lst ds =>
        obtain ⟨g0, zs, g1, g2, g3⟩ := q
        exact ⟨g0, zs, by rw [upd_ne (ne (rb_of e2))]; exact g1, g2, g3⟩
      | ro k ds =>
        cases k with
        | true => exact q
        | false =>
          obtain ⟨zs, g1, g2, g3⟩ := q
          have nb : b ≠ a := ne (by rw [e2]; trivial)
          refine ⟨zs, ?_, g2, g3⟩
          rcases g1 with g | ⟨o, g⟩
          · exact .inl (by rw [upd_ne nb]; exact g)
          · exact .inr ⟨o, by rw [upd_ne nb]; exact g⟩
      | dead => trivial
  · have back : ∀ {m : Nat}, Wr ((h.set n (.lst es))[m]?) → Wr (h[m]?) := fun {m} w => by
      cases e : (h.set n (.lst es))[m]? with
      | none => rw [e] at w; exact w.elim
      | some o =>
        rcases set_get e with ⟨rfl, _⟩ | ⟨_, e'⟩
        · exact wr_of hn
        · rw [e']; rw [e] at w; exact w
    have back2 : ∀ {m : Nat}, Rb ((h.set n (.lst es))[m]?) → Rb (h[m]?) := fun {m} w => by
      cases e : (h.set n (.lst es))[m]? with
      | none => rw [e] at w; exact w.elim
      | some o =>
        rcases set_get e with ⟨rfl, _⟩ | ⟨_, e'⟩
        · exact rb_of hn
        · rw [e']; rw [e] at w; exact w
    exact R.inj m k b e1 e2 (back w1) (back2 w2)
  · obtain ⟨ps, t1, t2, t3⟩ := R.tabs p hp
    refine ⟨ps, nt _ _ t1 (fun zs z => by cases z), t2, fun pos cv hc => ?_⟩
    obtain ⟨c, c1, c2⟩ := t3 pos cv hc
    exact ⟨c, c1, nt _ _ c2 (fun zs z => by unfold LamX.CodeO at z; cases z)⟩
/-- a list is changed no more -/
theorem RelH.stop (R : RelH G O P H r h) {n : Nat} {a : Addr} {ds : List D} (hr : r[n]? = some a) (hn : h[n]? = some (.lst ds)) : ∃ P1, RelH G O P1 H r (h.set n .dead) ∧ Fut P r P1 r ∧ Rp G.K P1 (.ref a) (.list ds) := by
  obtain ⟨h0, xs, h1, h2, h3⟩ := R.obj n a _ hr hn
  have sP : Same P (upd P a (.lst xs)) := same_upd h0
  have inj' : ∀ m, r[m]? = some a → Rb (h[m]?) → m = n := fun m e w => (R.inj n m a hr e (wr_of hn) w).symm
  refine ⟨upd P a (.lst xs), ⟨fun b u e => ?_, notab_upd R.notab (fun ps z => by cases z), by rw [List.length_set]; exact R.len, fun m b ob e1 e2 => ?_, fun m k b e1 e2 w1 w2 => ?_, R.tabs, fun b o e => ?_, fun m b e1 w => ?_, R.nocode⟩, ⟨sP, [], by simp⟩, .lst upd_same h2 (RpAll.mono sP h3)⟩
  rotate_right 2
  · have nb : b ≠ a := fun z => by rw [z, R.far n a hr (rb_of hn)] at e; cases e
    exact ⟨(R.out b o e).1, by rw [upd_ne nb]; exact (R.out b o e).2⟩
  · refine R.far m b e1 ?_
    cases e : (h.set n .dead)[m]? with
    | none => rw [e] at w; exact w.elim
    | some o =>
      rcases set_get e with ⟨rfl, rfl⟩ | ⟨_, e'⟩
      · rw [e] at w; exact w.elim
      · rw [e']; rw [e] at w; exact w
  · by_cases hb : b = a
    · subst hb
      rw [upd_same] at e
      rw [h1]
      exact e
    · rw [upd_ne hb] at e
      exact R.sub _ _ e
  · rcases set_get e2 with ⟨rfl, rfl⟩ | ⟨hm, e2⟩
    · trivial
    · have q := R.obj m b ob e1 e2
      cases ob with
      | lst ds =>
        obtain ⟨g0, zs, g1, g2, g3⟩ := q
        have nb : b ≠ a := fun z => hm (inj' m (by rw [← z]; exact e1) (rb_of e2))
        exact ⟨by rw [upd_ne nb]; exact g0, zs, g1, g2, RpAll.mono sP g3⟩
      | ro k ds =>
        cases k with
        | true =>
          obtain ⟨zs, g1, g2, g3⟩ := q
          exact ⟨zs, g1, g2, RpAll.mono sP g3⟩
        | false =>
          obtain ⟨zs, g1, g2, g3⟩ := q
          exact ⟨zs, g1, g2, RpAll.mono sP g3⟩
      | dead => trivial
  · have back : ∀ {m : Nat}, Rb ((h.set n .dead)[m]?) → Rb (h[m]?) := fun {m} w => by
      cases e : (h.set n .dead)[m]? with
      | none => rw [e] at w; exact w.elim
      | some o =>
        rcases set_get e with ⟨rfl, rfl⟩ | ⟨_, e'⟩
        · rw [e] at w; exact w.elim
        · rw [e']; rw [e] at w; exact w
    have back1 : ∀ {m : Nat}, Wr ((h.set n .dead)[m]?) → Wr (h[m]?) := fun {m} w => by
      cases e : (h.set n .dead)[m]? with
      | none => rw [e] at w; exact w.elim
      | some o =>
        rcases set_get e with ⟨rfl, rfl⟩ | ⟨_, e'⟩
        · rw [e] at w; exact w.elim
        · rw [e']; rw [e] at w; exact w
    exact R.inj m k b e1 e2 (back1 w1) (back w2)
theorem RelH.tabs_upd (R : RelH G O P H r h) {a : Addr} {xs ys : List V} (h1 : H a = some (.lst xs)) : LamX.Tabs G.T (upd H a (.lst ys)) := fun p hp => by
  have nt : ∀ (b : Addr) (u : HO), H b = some u → (∀ zs, u ≠ .lst zs) → upd H a (.lst ys) b = some u := fun b u e q => by
    rw [upd_ne (fun z => q xs (by rw [z, h1] at e; exact (Option.some.inj e).symm))]
    exact e
  obtain ⟨ps, t1, t2, t3⟩ := R.tabs p hp
  refine ⟨ps, nt _ _ t1 (fun zs z => by cases z), t2, fun pos cv hc => ?_⟩
  obtain ⟨c, c1, c2⟩ := t3 pos cv hc
  exact ⟨c, c1, nt _ _ c2 (fun zs z => by unfold LamX.CodeO at z; cases z)⟩
/-- a new list apart -/
theorem RelH.outNew (R : RelH G O P H r h) {a : Addr} (ha : H a = none) : RelH G (upd O a (.lst [])) P (upd H a (.lst [])) r h := by
  have sH := same_upd (o := .lst []) ha
  refine ⟨R.sub.trans sH, R.notab, R.len, fun n b ob e1 e2 => ?_, R.inj, R.tabs.ext sH, fun b o e => ?_, fun n b e1 w => ?_, fun b o e => ?_⟩
  · have q := R.obj n b ob e1 e2
    cases ob with
    | lst ds =>
      obtain ⟨h0, xs, h1, h2, h3⟩ := q
      exact ⟨h0, xs, sH _ _ h1, h2, h3⟩
    | ro k ds =>
      cases k with
      | true => exact q
      | false =>
        obtain ⟨xs, h1, h2, h3⟩ := q
        exact ⟨xs, Rd.same sH h1, h2, h3⟩
    | dead => trivial
  · by_cases hb : b = a
    · subst hb
      rw [upd_same] at e ⊢
      exact ⟨e, R.fresh ha⟩
    · rw [upd_ne hb] at e ⊢
      exact R.out b o e
  · have nb : b ≠ a := by
      cases e2 : h[n]? with
      | none => rw [e2] at w; exact w.elim
      | some ob =>
        rw [e2] at w
        have q := R.obj n b ob e1 e2
        cases ob with
        | lst ds =>
          obtain ⟨h0, xs, h1, h2, h3⟩ := q
          exact ne_of_none h1 ha
        | ro k ds =>
          cases k with
          | true => exact w.elim
          | false =>
            obtain ⟨xs, h1, h2, h3⟩ := q
            exact fun z => Rd.some h1 (by rw [z]; exact ha)
        | dead => exact w.elim
    rw [upd_ne nb]
    exact R.far n b e1 w
  · by_cases hb : b = a
    · subst hb
      rw [upd_same] at e
      exact ⟨_, (Option.some.inj e).symm⟩
    · rw [upd_ne hb] at e
      exact R.nocode b o e
theorem RelH.outPut {a : Addr} {xs ys : List V} (R : RelH G (upd O a (.lst xs)) P H r h) : RelH G (upd O a (.lst ys)) P (upd H a (.lst ys)) r h := by
  obtain ⟨h1, h0⟩ := R.out a _ upd_same
  have nP : ∀ b u, P b = some u → b ≠ a := fun b u e => ne_of_none e h0
  have nf : ∀ n b, r[n]? = some b → Rb (h[n]?) → b ≠ a := fun n b e w z => by
    have q := R.far n b e w
    rw [z, upd_same] at q
    cases q
  refine ⟨fun b u e => by rw [upd_ne (nP b u e)]; exact R.sub _ _ e, R.notab, R.len, fun n b ob e1 e2 => ?_, R.inj, R.tabs_upd h1, fun b o e => ?_, fun n b e1 w => ?_, fun b o e => ?_⟩
  · have q := R.obj n b ob e1 e2
    cases ob with
    | lst ds =>
      obtain ⟨g0, zs, g1, g2, g3⟩ := q
      exact ⟨g0, zs, by rw [upd_ne (nf n b e1 (rb_of e2))]; exact g1, g2, g3⟩
    | ro k ds =>
      cases k with
      | true => exact q
      | false =>
        obtain ⟨zs, g1, g2, g3⟩ := q
        have nb : b ≠ a := nf n b e1 (by rw [e2]; trivial)
        refine ⟨zs, ?_, g2, g3⟩
        rcases g1 with g | ⟨o, g⟩
        · exact .inl (by rw [upd_ne nb]; exact g)
        · exact .inr ⟨o, by rw [upd_ne nb]; exact g⟩
    | dead => trivial
  · by_cases hb : b = a
    · subst hb
      rw [upd_same] at e ⊢
      exact ⟨e, h0⟩
    · have q := R.out b o (by rw [upd_ne hb] at e ⊢; exact e)
      rw [upd_ne hb]
      exact q
  · have nb := nf n b e1 w
    have q := R.far n b e1 w
    rw [upd_ne nb] at q ⊢
    exact q
  · by_cases hb : b = a
    · subst hb
      rw [upd_same] at e
      exact ⟨_, (Option.some.inj e).symm⟩
    · exact R.nocode b o (by rw [upd_ne hb] at e ⊢; exact e)
theorem RelH.outEnd {a : Addr} {xs : List V} (hO : O a = none) (R : RelH G (upd O a (.lst xs)) P H r h) : RelH G O (upd P a (.lst xs)) H r h ∧ Fut P r (upd P a (.lst xs)) r := by
  obtain ⟨h1, h0⟩ := R.out a _ upd_same
  have sP : Same P (upd P a (.lst xs)) := same_upd h0
  have nf : ∀ n b, r[n]? = some b → Rb (h[n]?) → b ≠ a := fun n b e w z => by
    have q := R.far n b e w
    rw [z, upd_same] at q
    cases q
  have old : ∀ b o, O b = some o → b ≠ a ∧ upd O a (.lst xs) b = some o := fun b o e => by
    have nb : b ≠ a := ne_of_none e hO
    exact ⟨nb, by rw [upd_ne nb]; exact e⟩
  refine ⟨⟨fun b u e => ?_, notab_upd R.notab (fun ps z => by cases z), R.len, fun n b ob e1 e2 => ?_, R.inj, R.tabs, fun b o e => ?_, fun n b e1 w => ?_, fun b o e => R.nocode b o (old b o e).2⟩, sP, [], by simp⟩
  · by_cases hb : b = a
    · subst hb
      rw [upd_same] at e
      rw [h1]
      exact e
    · rw [upd_ne hb] at e
      exact R.sub _ _ e
  · have q := R.obj n b ob e1 e2
    cases ob with
    | lst ds =>
      obtain ⟨g0, zs, g1, g2, g3⟩ := q
      exact ⟨by rw [upd_ne (nf n b e1 (rb_of e2))]; exact g0, zs, g1, g2, RpAll.mono sP g3⟩
    | ro k ds =>
      cases k with
      | true =>
        obtain ⟨zs, g1, g2, g3⟩ := q
        exact ⟨zs, g1, g2, RpAll.mono sP g3⟩
      | false =>
        obtain ⟨zs, g1, g2, g3⟩ := q
        exact ⟨zs, g1, g2, RpAll.mono sP g3⟩
    | dead => trivial
  · obtain ⟨nb, e'⟩ := old b o e
    obtain ⟨q1, q2⟩ := R.out b o e'
    exact ⟨q1, by rw [upd_ne nb]; exact q2⟩
  · have nb := nf n b e1 w
    have q := R.far n b e1 w
    rw [upd_ne nb] at q
    exact q
/-- the newer things are forgotten -/
theorem RelH.cut (R : RelH G O P H r h) (n : Nat) : RelH G O P H (r.take n) (h.take n) := by
  have at_ : ∀ {α : Type} {l : List α} {m : Nat} {x : α}, (l.take n)[m]? = some x → l[m]? = some x := fun {α l m x} e => by
    rw [List.getElem?_take] at e
    split at e
    · exact e
    · cases e
  refine ⟨R.sub, R.notab, by rw [List.length_take, List.length_take, R.len], fun m a o e1 e2 => R.obj m a o (at_ e1) (at_ e2), fun m k a e1 e2 w1 w2 => R.inj m k a (at_ e1) (at_ e2) ?_ ?_, R.tabs, R.out, fun m b e1 w => R.far m b (at_ e1) ?_, R.nocode⟩
  · cases e : (h.take n)[m]? with
    | none => rw [e] at w1; exact w1.elim
    | some o => rw [at_ e]; rw [e] at w1; exact w1
  · cases e : (h.take n)[k]? with
    | none => rw [e] at w2; exact w2.elim
    | some o => rw [at_ e]; rw [e] at w2; exact w2
  · cases e : (h.take n)[m]? with
    | none => rw [e] at w; exact w.elim
    | some o => rw [at_ e]; rw [e] at w; exact w
end
end Ev
end

section
set_option Elab.async false
set_option linter.all false
set_option maxRecDepth 100000
set_option autoImplicit false
/-! the operators -/
namespace Ev
open PySem PySem.Spec PyProof.Rows L2
variable {O : Hp}

/-- what is wanted behind an expression -/
def PV (G : GI) (O P : Hp) (r : List Addr) (Q : VK) (W : XK) : R × Hq → Prop
  | (.val v, h1) => ∀ (P1 : Hp) (r1 : List Addr) (H1 : Hp) (x : V), Fut P r P1 r1 → RelH G O P1 H1 r1 h1 → RepV G P1 r1 x v → Q x H1
  | (.exc c p, h1) => ∀ (P1 : Hp) (r1 : List Addr) (H1 : Hp) (d : Addr) (x : V), Fut P r P1 r1 → RelH G O P1 H1 r1 h1 → H1 d = some (.xd [(G.fld c, x)]) → Rp G.K P1 x p → W (.ref (G.exc c)) (some d) H1
def PVs (G : GI) (O P : Hp) (r : List Addr) (Q : List V → Hp → Prop) (W : XK) : RA × Hq → Prop
  | (.vals v, h1) => ∀ (P1 : Hp) (r1 : List Addr) (H1 : Hp) (x : List V), Fut P r P1 r1 → RelH G O P1 H1 r1 h1 → RepL G P1 r1 x v → Q x H1
  | (.exc c p, h1) => ∀ (P1 : Hp) (r1 : List Addr) (H1 : Hp) (d : Addr) (x : V), Fut P r P1 r1 → RelH G O P1 H1 r1 h1 → H1 d = some (.xd [(G.fld c, x)]) → Rp G.K P1 x p → W (.ref (G.exc c)) (some d) H1
/-- an expression's reading by its meaning -/
def RE (G : GI) (ev : Env → Hq → ER) (W : XK) : TE := fun σ H Q => ∃ (O P : Hp) (r : List Addr) (env : Env) (h : Hq) (z : R × Hq), RelH G O P H r h ∧ RelE G P r σ env ∧ ev env h = some z ∧ PV G O P r Q W z
def RL (G : GI) (ev : Env → Hq → AR) (W : XK) : TA := fun σ H Q => ∃ (O P : Hp) (r : List Addr) (env : Env) (h : Hq) (z : RA × Hq), RelH G O P H r h ∧ RelE G P r σ env ∧ ev env h = some z ∧ PVs G O P r Q W z
/-- a test's -/
def RT (G : GI) (ev : Env → Hq → ER) (W : XK) : TT := fun σ H Q => RE G ev W σ H fun x H1 => ∃ b, x = .bl b ∧ Q b H1
section
variable {G : GI} {P P1 P2 H H1 : Hp} {r r1 r2 : List Addr} {h : Hq} {W : XK} {Q Q' : VK}
theorem PV.fut (a : Fut P r P1 r1) {z : R × Hq} (q : PV G O P r Q W z) : PV G O P1 r1 Q W z := by
  obtain ⟨z, h1⟩ := z
  cases z with
  | val v => exact fun P2 r2 H1 x b => q P2 r2 H1 x (a.trans b)
  | exc c p => exact fun P2 r2 H1 d x b => q P2 r2 H1 d x (a.trans b)
theorem PVs.fut (a : Fut P r P1 r1) {Q : List V → Hp → Prop} {z : RA × Hq} (q : PVs G O P r Q W z) : PVs G O P1 r1 Q W z := by
  obtain ⟨z, h1⟩ := z
  cases z with
  | vals v => exact fun P2 r2 H1 x b => q P2 r2 H1 x (a.trans b)
  | exc c p => exact fun P2 r2 H1 d x b => q P2 r2 H1 d x (a.trans b)
theorem PV.imp {z : R × Hq} (q : PV G O P r Q W z) (i : ∀ x H, Q x H → Q' x H) : PV G O P r Q' W z := by
  obtain ⟨z, h1⟩ := z
  cases z with
  | val v => exact fun P2 r2 H1 x b c d => i _ _ (q P2 r2 H1 x b c d)
  | exc c p => exact q
/-- the state behind a first step: the meaning goes on from there -/
theorem RE.mk {ev : Env → Hq → ER} {σ : L2.St} {env : Env} {z : R × Hq} (R : RelH G O P H r h) (e : RelE G P r σ env) (q : ev env h = some z) (pv : PV G O P r Q W z) : RE G ev W σ H Q := ⟨O, P, r, env, h, z, R, e, q, pv⟩
theorem PE.monoR {X : Cx} {e : Expr} {t t' : TE} (p : PE X e t) (m : ∀ σ H Q, t' σ H Q → t σ H Q) : PE X e t' := ⟨fun pins s σ H Q I q => p.run pins s σ H Q I (m _ _ _ q)⟩
theorem PT.monoR {X : Cx} {e : Expr} {t t' : TT} (p : PT X e t) (m : ∀ σ H Q, t' σ H Q → t σ H Q) : PT X e t' := ⟨fun pins s σ H Q I q => p.run pins s σ H Q I (m _ _ _ q)⟩
theorem PA.monoR {X : Cx} {e : List Expr} {t t' : TA} (p : PA X e t) (m : ∀ σ H Q, t' σ H Q → t σ H Q) : PA X e t' := ⟨fun pos pins s σ H Q I q => p.run pos pins s σ H Q I (m _ _ _ q)⟩
theorem PS.monoR {X : Cx} {e : Stmt} {t t' : TS} (p : PS X e t) (m : ∀ D σ H, t' D σ H → t D σ H) : PS X e t' := ⟨fun pins s σ H D I q => p.run pins s σ H D I (m _ _ _ q)⟩
theorem PSs.monoR {X : Cx} {e : List Stmt} {t t' : TS} (p : PSs X e t) (m : ∀ D σ H, t' D σ H → t D σ H) : PSs X e t' := ⟨fun pins s σ H D I q => p.run pins s σ H D I (m _ _ _ q)⟩
theorem OpR.imp {X : Cx} {f : Value → Value → Sem Value} {r r' : R2} (p : OpR X f r) (m : ∀ x y H Q, r' x y H Q → r x y H Q) : OpR X f r' := fun pins s σ H x y v u Q I a b q => p pins s σ H x y v u Q I a b (m _ _ _ _ q)
theorem UnR.imp {X : Cx} {f : Value → Sem Value} {r r' : V → Hp → VK → Prop} (p : UnR X f r) (m : ∀ x H Q, r' x H Q → r x H Q) : UnR X f r' := fun pins s σ H x v Q I a q => p pins s σ H x v Q I a (m _ _ _ q)
theorem CallR.imp {X : Cx} {f : Value} {r r' : List V → Hp → VK → Prop} (p : CallR X f r) (m : ∀ x H Q, r' x H Q → r x H Q) : CallR X f r' := fun pins s σ H x v Q I a q => p pins s σ H x v Q I a (m _ _ _ q)
end

/-! ### two-place operators -/
/-- two data that stand, the answer's place free -/
def rD (G : GI) (pure : Bool) (f : D → D → Option D) : R2 := fun x y H Q => ∃ (O P : Hp) (r : List Addr) (h : Hq) (a b : Val) (dx dy z : D), RelH G O P H r h ∧ RepV G P r x a ∧ RepV G P r y b ∧
  (pure = true → a = .d dx ∧ b = .d dy) ∧ viewV h a = some dx ∧ viewV h b = some dy ∧ f dx dy = some z ∧
  ∀ (P1 H1 : Hp) (w : V), Fut P r P1 r → RelH G O P1 H1 r h → Rp G.K P1 w z → Q w H1
section
variable {X : Cx} {G : GI}
theorem view_int {P : Hp} {r : List Addr} {h : Hq} {x : V} {a : Val} {i : Int} (q : RepV G P r x a) (e : viewV h a = some (.int i)) : x = .int i := by
  cases a with
  | d y =>
    simp only [viewV, Option.some.injEq] at e
    subst e
    cases q
    rfl
  | ref n =>
    obtain ⟨ds, o, e2, _⟩ := view_ref e
    cases e2
theorem view_bool {P : Hp} {r : List Addr} {h : Hq} {x : V} {a : Val} {i : Bool} (q : RepV G P r x a) (e : viewV h a = some (.bool i)) : x = .bl i := by
  cases a with
  | d y =>
    simp only [viewV, Option.some.injEq] at e
    subst e
    cases q
    rfl
  | ref n =>
    obtain ⟨ds, o, e2, _⟩ := view_ref e
    cases e2
theorem view_str {P : Hp} {r : List Addr} {h : Hq} {x : V} {a : Val} {i : Str} (q : RepV G P r x a) (e : viewV h a = some (.str i)) : x = .str i ∧ i.length ≤ sizeLine := by
  cases a with
  | d y =>
    simp only [viewV, Option.some.injEq] at e
    subst e
    cases q with
    | str _ hl => exact ⟨rfl, hl⟩
  | ref n =>
    obtain ⟨ds, o, e2, _⟩ := view_ref e
    cases e2
theorem view_plain {P : Hp} {H : Hp} {r : List Addr} {h : Hq} {x : V} {a : Val} {d : D} (R : RelH G O P H r h) (q : RepV G P r x a) (e : viewV h a = some d) : d.plain = true := by
  cases a with
  | d y =>
    simp only [viewV, Option.some.injEq] at e
    subst e
    exact Rp.plain q
  | ref n =>
    obtain ⟨b, rfl, hb⟩ := q
    obtain ⟨ds, o, rfl, hn, ho⟩ := view_ref e
    obtain ⟨xs, _, _, h3⟩ := (R.obj n b _ hb hn).sq ho
    simp only [PyData.plain]
    exact RpAll.plain h3
theorem line_eq : line = sizeLine := by rw [sizeLine_eq]; rfl
/-- two ints -/
theorem opI_ok {f : Value → Value → Sem Value} {C : Int → Int → Prop} {g : Int → Int → Int} {s : D → D → Option D} {pure : Bool} (ho : OpR X f (rI C fun i j => .int (g i j))) (hs : ∀ x y z, s x y = some z → ∃ i j, x = .int i ∧ y = .int j ∧ C i j ∧ z = .int (g i j)) : OpR X f (rD G pure s) := by
  refine OpR.imp ho fun x y H Q q => ?_
  obtain ⟨O, P, r, h, a, b, dx, dy, z, R, ra, rb, _, va, vb, e, k⟩ := q
  obtain ⟨i, j, rfl, rfl, hc, rfl⟩ := hs _ _ _ e
  exact ⟨i, j, view_int ra va, view_int rb vb, hc, k P H _ .refl R (.int _)⟩
theorem opI0_ok {f : Value → Value → Sem Value} {g : Int → Int → Int} {s : D → D → Option D} {pure : Bool} (ho : OpR X f (rI0 fun i j => .int (g i j))) (hs : ∀ x y z, s x y = some z → ∃ i j, x = .int i ∧ y = .int j ∧ z = .int (g i j)) : OpR X f (rD G pure s) := by
  refine OpR.imp ho fun x y H Q q => ?_
  obtain ⟨O, P, r, h, a, b, dx, dy, z, R, ra, rb, _, va, vb, e, k⟩ := q
  obtain ⟨i, j, rfl, rfl, rfl⟩ := hs _ _ _ e
  exact ⟨i, j, view_int ra va, view_int rb vb, k P H _ .refl R (.int _)⟩
theorem opB0_ok {f : Value → Value → Sem Value} {g : Int → Int → Bool} {s : D → D → Option D} {pure : Bool} (ho : OpR X f (rI0 fun i j => .bl (g i j))) (hs : ∀ x y z, s x y = some z → ∃ i j, x = .int i ∧ y = .int j ∧ z = .bool (g i j)) : OpR X f (rD G pure s) := by
  refine OpR.imp ho fun x y H Q q => ?_
  obtain ⟨O, P, r, h, a, b, dx, dy, z, R, ra, rb, _, va, vb, e, k⟩ := q
  obtain ⟨i, j, rfl, rfl, rfl⟩ := hs _ _ _ e
  exact ⟨i, j, view_int ra va, view_int rb vb, k P H _ .refl R (.bl _)⟩
/-- one of several -/
theorem op_split {f : Value → Value → Sem Value} {s s1 s2 : D → D → Option D} {pure : Bool} (h1 : OpR X f (rD G pure s1)) (h2 : OpR X f (rD G pure s2)) (hs : ∀ x y z, s x y = some z → s1 x y = some z ∨ s2 x y = some z) : OpR X f (rD G pure s) := by
  refine OpR.imp (h1.or h2) fun x y H Q q => ?_
  obtain ⟨O, P, r, h, a, b, dx, dy, z, R, ra, rb, hp, va, vb, e, k⟩ := q
  rcases hs _ _ _ e with e | e
  · exact .inl ⟨O, P, r, h, a, b, dx, dy, z, R, ra, rb, hp, va, vb, e, k⟩
  · exact .inr ⟨O, P, r, h, a, b, dx, dy, z, R, ra, rb, hp, va, vb, e, k⟩

theorem ok_eq (hu : X.A.units + 100 < cLine) (hK : G.K = X.K) : OpR X (compareOp .Eq) (rD G false (sem2 .eq)) := by
  intro pins s σ H x y v u Q I rx ry q
  obtain ⟨O, P, r, h, a, b, dx, dy, z, R, ra, rb, _, va, vb, e, k⟩ := q
  have e' : (if min dx.depth dy.depth ≤ 40 then some (PyData.bool (PyData.eqv dx dy)) else none) = some z := e
  split at e'
  · rename_i hd
    obtain ⟨as, r1⟩ := Dp.reads I dx x v (hK ▸ view_dp R ra va) rx
    obtain ⟨bs, r2⟩ := Dp.reads I dy y u (hK ▸ view_dp R rb vb) ry
    refine SeqAt.eq_plain r1 r2 (view_plain R ra va) (view_plain R rb vb) (by omega) ⟨.bl _, H, I, rfl, ?_⟩
    have e2 := Option.some.inj e'
    exact k P H _ .refl R (e2 ▸ .bl _)
  · cases e'
theorem ok_ne (hu : X.A.units + 100 < cLine) (hK : G.K = X.K) : OpR X (compareOp .NotEq) (rD G false (sem2 .ne)) := by
  intro pins s σ H x y v u Q I rx ry q
  obtain ⟨O, P, r, h, a, b, dx, dy, z, R, ra, rb, _, va, vb, e, k⟩ := q
  have e' : (if min dx.depth dy.depth ≤ 40 then some (PyData.bool (!PyData.eqv dx dy)) else none) = some z := e
  split at e'
  · rename_i hd
    obtain ⟨as, r1⟩ := Dp.reads I dx x v (hK ▸ view_dp R ra va) rx
    obtain ⟨bs, r2⟩ := Dp.reads I dy y u (hK ▸ view_dp R rb vb) ry
    refine SeqAt.ne_plain r1 r2 (view_plain R ra va) (view_plain R rb vb) (by omega) ⟨.bl _, H, I, rfl, ?_⟩
    have e2 := Option.some.inj e'
    exact k P H _ .refl R (e2 ▸ .bl _)
  · cases e'
theorem ok_in (hu : X.A.units + 100 < cLine) (hK : G.K = X.K) : OpR X (compareOp .In) (rD G false (sem2 .isin)) := by
  intro pins s σ H x y v u Q I rx ry q
  obtain ⟨O, P, r, h, a, b, dx, dy, z, R, ra, rb, _, va, vb, e, k⟩ := q
  have e' : (match itemsOf dy with
    | some ys => if dx.depth ≤ 40 then some (PyData.bool (ys.any fun z => PyData.eqv z dx)) else none
    | none => none) = some z := e
  have py := view_plain R rb vb
  obtain ⟨as, r1⟩ := Dp.reads I dx x v (hK ▸ view_dp R ra va) rx
  obtain ⟨bs, r2⟩ := Dp.reads I dy y u (hK ▸ view_dp R rb vb) ry
  have fin : ∀ ys : List D, (if dx.depth ≤ 40 then some (PyData.bool (ys.any fun z => PyData.eqv z dx)) else none) = some z → dx.depth ≤ 40 ∧ EP X pins σ Q (.bool (ys.any fun z => PyData.eqv z dx)) s := fun ys hy => by
    split at hy
    · rename_i hd
      exact ⟨hd, .bl _, H, I, rfl, k P H _ .refl R (Option.some.inj hy ▸ .bl _)⟩
    · cases hy
  cases dy with
  | list ys =>
    obtain ⟨hd, q⟩ := fin ys e'
    simp only [PyData.plain] at py
    exact SeqAt.in_list_data r2 r1 py (view_plain R ra va) (by omega) q
  | tuple ys =>
    obtain ⟨hd, q⟩ := fin ys e'
    simp only [PyData.plain] at py
    exact SeqAt.in_tuple_data r2 r1 py (view_plain R ra va) (by omega) q
  | _ => cases e'
theorem ok_notin (hu : X.A.units + 100 < cLine) (hK : G.K = X.K) : OpR X (compareOp .NotIn) (rD G false (sem2 .notin)) := by
  intro pins s σ H x y v u Q I rx ry q
  obtain ⟨O, P, r, h, a, b, dx, dy, z, R, ra, rb, _, va, vb, e, k⟩ := q
  have e' : (match itemsOf dy with
    | some ys => if dx.depth ≤ 40 then some (PyData.bool (!ys.any fun z => PyData.eqv z dx)) else none
    | none => none) = some z := e
  have py := view_plain R rb vb
  obtain ⟨as, r1⟩ := Dp.reads I dx x v (hK ▸ view_dp R ra va) rx
  obtain ⟨bs, r2⟩ := Dp.reads I dy y u (hK ▸ view_dp R rb vb) ry
  have fin : ∀ ys : List D, (if dx.depth ≤ 40 then some (PyData.bool (!ys.any fun z => PyData.eqv z dx)) else none) = some z → dx.depth ≤ 40 ∧ EP X pins σ Q (.bool (!ys.any fun z => PyData.eqv z dx)) s := fun ys hy => by
    split at hy
    · rename_i hd
      exact ⟨hd, .bl _, H, I, rfl, k P H _ .refl R (Option.some.inj hy ▸ .bl _)⟩
    · cases hy
  cases dy with
  | list ys =>
    obtain ⟨hd, q⟩ := fin ys e'
    simp only [PyData.plain] at py
    exact SeqAt.notIn_list_data r2 r1 py (view_plain R ra va) (by omega) q
  | tuple ys =>
    obtain ⟨hd, q⟩ := fin ys e'
    simp only [PyData.plain] at py
    exact SeqAt.notIn_tuple_data r2 r1 py (view_plain R ra va) (by omega) q
  | _ => cases e'
theorem view_none {P : Hp} {r : List Addr} {h : Hq} {x : V} {a : Val} {d : D} (q : RepV G P r x a) (e : viewV h a = some d) : isNone d = decide (x = .non) := by
  cases a with
  | d y =>
    simp only [viewV, Option.some.injEq] at e
    subst e
    cases q <;> simp [isNone]
  | ref n =>
    obtain ⟨b, rfl, _⟩ := q
    obtain ⟨ds, o, rfl, _⟩ := view_ref e
    simp [isNone]
theorem ok_is : OpR X (compareOp .Is) (rD G false (sem2 .is_)) := by
  refine OpR.imp (op_isN.or op_is_bl) fun x y H Q q => ?_
  obtain ⟨O, P, r, h, a, b, dx, dy, z, R, ra, rb, _, va, vb, e, k⟩ := q
  cases dy with
  | none =>
    have e' := Option.some.inj (show some (PyData.bool (isNone dx)) = some z from e)
    have h2 := view_none rb vb
    refine .inl ⟨?_, ?_⟩
    · simpa [isNone] using h2
    · rw [← view_none ra va]
      exact k P H _ .refl R (e' ▸ .bl _)
  | bool c =>
    cases dx with
    | bool d =>
      have e' := Option.some.inj (show some (PyData.bool (d == c)) = some z from e)
      refine .inr ⟨d, c, view_bool ra va, view_bool rb vb, k P H _ .refl R (e' ▸ ?_)⟩
      have : decide (d = c) = (d == c) := by cases d <;> cases c <;> rfl
      rw [this]
      exact .bl _
    | _ => cases e
  | _ => cases e
theorem ok_isnot : OpR X (compareOp .IsNot) (rD G false (sem2 .isnot)) := by
  refine OpR.imp (op_notN.or op_isnot_bl) fun x y H Q q => ?_
  obtain ⟨O, P, r, h, a, b, dx, dy, z, R, ra, rb, _, va, vb, e, k⟩ := q
  cases dy with
  | none =>
    have e' := Option.some.inj (show some (PyData.bool (!isNone dx)) = some z from e)
    have h2 := view_none rb vb
    refine .inl ⟨?_, ?_⟩
    · simpa [isNone] using h2
    · rw [← view_none ra va]
      exact k P H _ .refl R (e' ▸ .bl _)
  | bool c =>
    cases dx with
    | bool d =>
      have e' := Option.some.inj (show some (PyData.bool (!(d == c))) = some z from e)
      refine .inr ⟨d, c, view_bool ra va, view_bool rb vb, k P H _ .refl R (e' ▸ ?_)⟩
      have : decide (d = c) = (d == c) := by cases d <;> cases c <;> rfl
      rw [this]
      exact .bl _
    | _ => cases e
  | _ => cases e
theorem cmp_ints {g : Int → Int → Bool} {x y z : D} (e : (match x, y with
    | PyData.int i, PyData.int j => some (PyData.bool (g i j))
    | _, _ => none) = some z) : ∃ i j, x = .int i ∧ y = .int j ∧ z = .bool (g i j) := by
  split at e
  · exact ⟨_, _, rfl, rfl, (Option.some.inj e).symm⟩
  · cases e
theorem ok_lt : OpR X (compareOp .Lt) (rD G false (sem2 .lt)) := opB0_ok op_lt fun x y z e => cmp_ints (g := fun i j => decide (i < j)) e
theorem ok_le : OpR X (compareOp .LtE) (rD G false (sem2 .le)) := opB0_ok op_le fun x y z e => cmp_ints (g := fun i j => decide (i ≤ j)) e
theorem ok_gt : OpR X (compareOp .Gt) (rD G false (sem2 .gt)) := opB0_ok op_gt fun x y z e => cmp_ints (g := fun i j => decide (j < i)) e
theorem ok_ge : OpR X (compareOp .GtE) (rD G false (sem2 .ge)) := opB0_ok op_ge fun x y z e => cmp_ints (g := fun i j => decide (j ≤ i)) e
theorem ok_sub : OpR X (binaryOp .Sub) (rD G true (sem2 .sub)) := opI0_ok op_sub fun x y z e => by
  unfold sem2 at e
  dsimp only at e
  split at e
  · exact ⟨_, _, rfl, rfl, (Option.some.inj e).symm⟩
  · cases e
theorem ok_mod : OpR X (binaryOp .Mod) (rD G true (sem2 .mod)) := opI_ok op_mod fun x y z e => by
  unfold sem2 at e
  dsimp only at e
  split at e
  · split at e
    · rename_i hj
      exact ⟨_, _, rfl, rfl, hj, (Option.some.inj e).symm⟩
    · cases e
  · cases e
theorem ok_fdiv : OpR X (binaryOp .FloorDiv) (rD G true (sem2 .fdiv)) := opI_ok op_fdivW fun x y z e => by
  unfold sem2 at e
  dsimp only at e
  split at e
  · split at e
    · rename_i hj
      obtain ⟨h1, h2⟩ := Bool.and_eq_true_iff.mp hj
      exact ⟨_, _, rfl, rfl, wide_div (b := 4000) (of_decide_eq_true h1) (of_decide_eq_true h2) (by decide) (by decide), (Option.some.inj e).symm⟩
    · cases e
  · cases e
theorem ok_pow : OpR X (binaryOp .Pow) (rD G true (sem2 .pow)) := opI_ok op_pow fun x y z e => by
  unfold sem2 at e
  dsimp only at e
  split at e
  · split at e
    · rename_i hj
      exact ⟨_, _, rfl, rfl, ⟨hj.1, by omega, Nat.lt_trans hj.2.2 (by decide)⟩, (Option.some.inj e).symm⟩
    · cases e
  · cases e
def sMulI (x y : D) : Option D := match x, y with
  | .int i, .int j => if mulOk i j then some (.int (i * j)) else none
  | _, _ => none
def CMulA (i j : Int) : Prop := CMul i j ∨ CMulW i j
theorem op_mulA : OpR X (binaryOp .Mult) (rI CMulA fun i j => .int (i * j)) := by
  refine OpR.imp (op_mul.or op_mulW) fun x y H Q q => ?_
  obtain ⟨i, j, e1, e2, c, q⟩ := q
  rcases c with c | c
  · exact .inl ⟨i, j, e1, e2, c, q⟩
  · exact .inr ⟨i, j, e1, e2, c, q⟩
theorem smallI_ok {i : Int} (h : smallI i = true) : -(2 ^ 64) < i ∧ i < 2 ^ 64 := by
  obtain ⟨h1, h2⟩ := Bool.and_eq_true_iff.mp h
  exact ⟨of_decide_eq_true h1, of_decide_eq_true h2⟩
theorem ok_mulI : OpR X (binaryOp .Mult) (rD G true sMulI) := opI_ok op_mulA fun x y z e => by
  unfold sMulI at e
  split at e
  · split at e
    · rename_i hj
      refine ⟨_, _, rfl, rfl, ?_, (Option.some.inj e).symm⟩
      rcases Bool.or_eq_true_iff.mp hj with h1 | h1
      · rcases Bool.or_eq_true_iff.mp h1 with h1 | h1
        · exact .inl (.inl (smallI_ok h1))
        · exact .inl (.inr (smallI_ok h1))
      · have h2 := of_decide_eq_true h1
        exact .inr (wide_mul (a := 4000) (b := 4000) h2.1 h2.2 (by decide) (by decide) (by decide))
    · cases e
  · cases e
end
theorem RpAll.rep {K : PySem.W.Frag} {P : Hp} {v : List V} {d : List D} (h : RpAll K P v d) : ∀ k : Nat, RpAll K P (List.replicate k v).flatten (List.replicate k d).flatten
  | 0 => .nil
  | k + 1 => by
    rw [List.replicate_succ, List.replicate_succ, List.flatten_cons, List.flatten_cons]
    exact h.append (RpAll.rep h k)
section
variable {X : Cx} {G : GI}
def sAddI (x y : D) : Option D := match x, y with
  | .int i, .int j => some (.int (i + j))
  | _, _ => none
def sAddL (x y : D) : Option D := match x, y with
  | .list xs, .list ys => if xs.length + ys.length ≤ line then some (.list (xs ++ ys)) else none
  | _, _ => none
def sAddT (x y : D) : Option D := match x, y with
  | .tuple xs, .tuple ys => if xs.length + ys.length ≤ line then some (.tuple (xs ++ ys)) else none
  | _, _ => none
def sAddS (x y : D) : Option D := match x, y with
  | .str s, .str t => if s.length + t.length ≤ line then some (.str (s ++ t)) else none
  | _, _ => none
theorem ok_addI : OpR X (binaryOp .Add) (rD G true sAddI) := opI0_ok op_add fun x y z e => by
  unfold sAddI at e
  split at e
  · exact ⟨_, _, rfl, rfl, (Option.some.inj e).symm⟩
  · cases e
theorem ok_addS : OpR X (binaryOp .Add) (rD G true sAddS) := by
  refine OpR.imp op_add_str fun x y H Q q => ?_
  obtain ⟨O, P, r, h, a, b, dx, dy, z, R, ra, rb, hp, va, vb, e, k⟩ := q
  unfold sAddS at e
  split at e
  · rename_i s t
    split at e
    · rename_i hl
      rw [line_eq] at hl
      refine ⟨s, t, (view_str ra va).1, (view_str rb vb).1, hl, k P H _ .refl R (Option.some.inj e ▸ .str _ ?_)⟩
      have : (s ++ t).length = s.length + t.length := by
        show (s.cps ++ t.cps).size = _
        rw [Array.size_append]
        rfl
      omega
    · cases e
  · cases e
theorem ok_addL (hK : G.K = X.K) : OpR X (binaryOp .Add) (rD G true sAddL) := by
  refine OpR.imp op_cat fun x y H Q q => ?_
  obtain ⟨O, P, r, h, a, b, dx, dy, z, R, ra, rb, hp, va, vb, e, k⟩ := q
  obtain ⟨rfl, rfl⟩ := hp rfl
  unfold sAddL at e
  split at e
  · rename_i xs ys
    split at e
    · rename_i hl
      rw [line_eq] at hl
      cases ra with
      | lst a1 a2 a3 =>
        cases rb with
        | lst b1 b2 b3 =>
          refine ⟨_, _, _, _, rfl, rfl, R.sub _ _ a1, R.sub _ _ b1, by rw [a3.length, b3.length]; exact hl, fun p hp => ?_⟩
          obtain ⟨R1, f⟩ := R.newP (o := .lst _) hp (fun ps z => by cases z)
          exact k _ _ _ f R1 (Option.some.inj e ▸ .lst upd_same (by rw [List.length_append, a3.length, b3.length]; exact hl) ((a3.append b3).mono f.same))
    · cases e
  · cases e
theorem ok_addT (hK : G.K = X.K) : OpR X (binaryOp .Add) (rD G true sAddT) := by
  refine OpR.imp op_catA fun x y H Q q => ?_
  obtain ⟨O, P, r, h, a, b, dx, dy, z, R, ra, rb, hp, va, vb, e, k⟩ := q
  obtain ⟨rfl, rfl⟩ := hp rfl
  unfold sAddT at e
  split at e
  · rename_i xs ys
    split at e
    · rename_i hl
      rw [line_eq] at hl
      cases ra with
      | tup a1 a2 a3 =>
        cases rb with
        | tup b1 b2 b3 =>
          rename_i aa as bb bs
          rw [← hK]
          refine ⟨aa, bb, as, bs, rfl, rfl, same_sqT R.sub a1, same_sqT R.sub b1, by rw [a3.length, b3.length]; exact hl, fun he => ?_, fun hne he => ?_, fun h1 h2 p hp => ?_⟩
          · subst he
            cases a3
            exact k _ _ _ .refl R (Option.some.inj e ▸ .tup b1 b2 b3)
          · subst he
            cases b3
            exact k _ _ _ .refl R (Option.some.inj e ▸ (by rw [List.append_nil]; exact .tup a1 a2 a3))
          · obtain ⟨R1, f⟩ := R.newP (o := .tup (as ++ bs)) hp (fun ps z => by cases z)
            exact k _ _ _ f R1 (Option.some.inj e ▸ .tup (.inl (.inl upd_same)) (by rw [List.length_append, a3.length, b3.length]; exact hl) ((a3.append b3).mono f.same))
    · cases e
  · cases e
theorem ok_add (hK : G.K = X.K) : OpR X (binaryOp .Add) (rD G true (sem2 .add)) := by
  refine op_split (s1 := sAddI) (s2 := fun x y => sAddL x y <|> sAddT x y <|> sAddS x y) ok_addI ?_ fun x y z e => ?_
  · refine op_split (s1 := sAddL) (s2 := fun x y => sAddT x y <|> sAddS x y) (ok_addL hK) ?_ fun x y z e => ?_
    · refine op_split (s1 := sAddT) (s2 := sAddS) (ok_addT hK) ok_addS fun x y z e => ?_
      cases h1 : sAddT x y with
      | none => rw [h1] at e; exact .inr e
      | some w => rw [h1] at e; exact .inl e
    · cases h1 : sAddL x y with
      | none => rw [h1] at e; exact .inr e
      | some w => rw [h1] at e; exact .inl e
  · unfold sem2 at e
    dsimp only at e
    split at e
    · exact .inl e
    · exact .inr (by show (sAddL _ _ <|> _) = _; unfold sAddL; dsimp only; rw [e]; rfl)
    · exact .inr (by show (sAddL _ _ <|> (sAddT _ _ <|> _)) = _; unfold sAddL sAddT; dsimp only; rw [e]; rfl)
    · exact .inr (by show (sAddL _ _ <|> (sAddT _ _ <|> sAddS _ _)) = _; unfold sAddL sAddT sAddS; dsimp only; rw [e]; rfl)
    · cases e
def sMulL (x y : D) : Option D := match x, y with
  | .list xs, .int k => if 0 ≤ k ∧ k ≤ 1000000 ∧ xs.length * k.toNat ≤ line then some (.list (List.replicate k.toNat xs).flatten) else none
  | _, _ => none
def sMulT (x y : D) : Option D := match x, y with
  | .tuple xs, .int k => if xs ≠ [] ∧ 2 ≤ k ∧ k ≤ 1000 ∧ xs.length ≤ 1000 then some (.tuple (List.replicate k.toNat xs).flatten) else none
  | _, _ => none
theorem rep_len {α : Type} (xs : List α) : ∀ k : Nat, (List.replicate k xs).flatten.length = xs.length * k
  | 0 => by simp
  | k + 1 => by rw [List.replicate_succ, List.flatten_cons, List.length_append, rep_len xs k, Nat.mul_succ, Nat.add_comm]
theorem ok_mulL : OpR X (binaryOp .Mult) (rD G true sMulL) := by
  refine OpR.imp op_rep fun x y H Q q => ?_
  obtain ⟨O, P, r, h, a, b, dx, dy, z, R, ra, rb, hp, va, vb, e, k⟩ := q
  obtain ⟨rfl, rfl⟩ := hp rfl
  unfold sMulL at e
  split at e
  · rename_i xs n
    split at e
    · rename_i hl
      rw [line_eq] at hl
      cases ra with
      | lst a1 a2 a3 =>
        cases rb with
        | int =>
          refine ⟨_, _, _, rfl, rfl, R.sub _ _ a1, by omega, by omega, by rw [a3.length]; exact hl.2.2, fun p hp => ?_⟩
          obtain ⟨R1, f⟩ := R.newP (o := .lst _) hp (fun ps z => by cases z)
          exact k _ _ _ f R1 (Option.some.inj e ▸ .lst upd_same (by rw [rep_len, a3.length]; exact hl.2.2) ((a3.rep _).mono f.same))
    · cases e
  · cases e
theorem ok_mulT (hK : G.K = X.K) : OpR X (binaryOp .Mult) (rD G true sMulT) := by
  refine OpR.imp op_repT fun x y H Q q => ?_
  obtain ⟨O, P, r, h, a, b, dx, dy, z, R, ra, rb, hp, va, vb, e, k⟩ := q
  obtain ⟨rfl, rfl⟩ := hp rfl
  unfold sMulT at e
  split at e
  · rename_i xs n
    split at e
    · rename_i hl
      cases ra with
      | tup a1 a2 a3 =>
        cases rb with
        | int =>
          rw [← hK]
          refine ⟨_, _, _, rfl, rfl, same_sqT R.sub a1, fun z => hl.1 ?_, hl.2.1, hl.2.2.1, by rw [a3.length]; exact hl.2.2.2, fun p hp => ?_⟩
          · subst z
            cases a3
            rfl
          · obtain ⟨R1, f⟩ := R.newP (o := .tup _) hp (fun ps z => by cases z)
            refine k _ _ _ f R1 (Option.some.inj e ▸ .tup (.inl (.inl upd_same)) ?_ ((a3.rep _).mono f.same))
            rw [rep_len, a3.length, sizeLine_eq]
            have h1 : n.toNat ≤ 1000 := by omega
            have h2 := Nat.mul_le_mul hl.2.2.2 h1
            omega
    · cases e
  · cases e
theorem ok_mul (hK : G.K = X.K) : OpR X (binaryOp .Mult) (rD G true (sem2 .mul)) := by
  refine op_split (s1 := sMulI) (s2 := fun x y => sMulL x y <|> sMulT x y) ok_mulI ?_ fun x y z e => ?_
  · refine op_split (s1 := sMulL) (s2 := sMulT) ok_mulL (ok_mulT hK) fun x y z e => ?_
    cases h1 : sMulL x y with
    | none => rw [h1] at e; exact .inr e
    | some w => rw [h1] at e; exact .inl e
  · unfold sem2 at e
    dsimp only at e
    split at e
    · exact .inl e
    · exact .inr (by show (sMulL _ _ <|> _) = _; unfold sMulL; dsimp only; rw [e]; rfl)
    · exact .inr (by show (sMulL _ _ <|> sMulT _ _) = _; unfold sMulL sMulT; dsimp only; rw [e]; rfl)
    · cases e

/-- the model's operator -/
def fnOf : B2 → Value → Value → Sem Value
  | .add => binaryOp .Add | .sub => binaryOp .Sub | .mul => binaryOp .Mult | .fdiv => binaryOp .FloorDiv | .mod => binaryOp .Mod | .pow => binaryOp .Pow
  | .eq => compareOp .Eq | .ne => compareOp .NotEq | .lt => compareOp .Lt | .le => compareOp .LtE | .gt => compareOp .Gt | .ge => compareOp .GtE
  | .isin => compareOp .In | .notin => compareOp .NotIn | .is_ => compareOp .Is | .isnot => compareOp .IsNot
theorem ok_b2 (hu : X.A.units + 100 < cLine) (hK : G.K = X.K) (o : B2) : OpR X (fnOf o) (rD G o.arith (sem2 o)) := by
  cases o with
  | add => exact ok_add hK
  | sub => exact ok_sub
  | mul => exact ok_mul hK
  | fdiv => exact ok_fdiv
  | mod => exact ok_mod
  | pow => exact ok_pow
  | eq => exact ok_eq hu hK
  | ne => exact ok_ne hu hK
  | lt => exact ok_lt
  | le => exact ok_le
  | gt => exact ok_gt
  | ge => exact ok_ge
  | isin => exact ok_in hu hK
  | notin => exact ok_notin hu hK
  | is_ => exact ok_is
  | isnot => exact ok_isnot
/-- from what an operator sees -/
theorem rD_of {o : B2} {P H : Hp} {r : List Addr} {h : Hq} {x y : V} {a b : Val} {dx dy z : D} {Q : VK} (R : RelH G O P H r h) (ra : RepV G P r x a) (rb : RepV G P r y b) (va : opnd o h a = some dx) (vb : opnd o h b = some dy) (e : sem2 o dx dy = some z)
    (k : ∀ (P1 H1 : Hp) (w : V), Fut P r P1 r → RelH G O P1 H1 r h → Rp G.K P1 w z → Q w H1) : rD G o.arith (sem2 o) x y H Q := by
  unfold opnd at va vb
  cases ho : o.arith with
  | true =>
    rw [ho] at va vb
    dsimp only at va vb
    cases a with
    | ref n => cases va
    | d a =>
      cases b with
      | ref n => cases vb
      | d b =>
        cases va
        cases vb
        exact ⟨O, P, r, h, _, _, _, _, z, R, ra, rb, fun _ => ⟨rfl, rfl⟩, rfl, rfl, e, k⟩
  | false =>
    rw [ho] at va vb
    exact ⟨O, P, r, h, _, _, dx, dy, z, R, ra, rb, (fun z => by cases z), va, vb, e, k⟩
end
end Ev
end

section
set_option Elab.async false
set_option linter.all false
set_option maxRecDepth 100000
set_option autoImplicit false
/-! expressions -/
namespace Ev
open PySem PySem.Spec PyProof.Rows L2
variable {O : Hp}

/-- the context of a def's body, of a block in it, of a lambda in it -/
structure Good (G : GI) (X : Cx) (W : XK) : Prop where
  hK : G.K = X.K
  hu : X.A.units + 100 < cLine
  calm : X.calm = true
  nd : X.N.Nodup
  tk : Takes X (fun c d _ H => W c d H)
section
variable {G : GI} {X : Cx} {W : XK} {pos : Pos}
/-- one step of a meaning, from a known state -/
theorem go {P H : Hp} {r : List Addr} {env : Env} {h : Hq} {σ : L2.St} {ea : Env → Hq → ER} {f : Val → Hq → ER} {z : Ev.R × Hq} {Q S : VK} (R : RelH G O P H r h) (re : RelE G P r σ env) (q : bnd (ea env h) f = some z) (pv : PV G O P r Q W z)
    (step : ∀ (P1 : Hp) (r1 : List Addr) (H1 : Hp) (x : V) (v : Val) (h1 : Hq), Fut P r P1 r1 → RelH G O P1 H1 r1 h1 → RepV G P1 r1 x v → f v h1 = some z → S x H1) : RE G ea W σ H S := by
  refine ⟨O, P, r, env, h, ?_⟩
  unfold bnd at q
  split at q
  · rename_i v h1 he
    exact ⟨_, R, re, he, fun P1 r1 H1 x f R1 rv => step P1 r1 H1 x v h1 f R1 rv q⟩
  · rename_i c p h1 he
    cases q
    exact ⟨_, R, re, he, pv⟩
  · cases q
theorem goA {P H : Hp} {r : List Addr} {env : Env} {h : Hq} {σ : L2.St} {ea : Env → Hq → AR} {f : List Val → Hq → ER} {z : Ev.R × Hq} {Q : VK} {S : List V → Hp → Prop} (R : RelH G O P H r h) (re : RelE G P r σ env) (q : bndA (ea env h) f = some z) (pv : PV G O P r Q W z)
    (step : ∀ (P1 : Hp) (r1 : List Addr) (H1 : Hp) (x : List V) (v : List Val) (h1 : Hq), Fut P r P1 r1 → RelH G O P1 H1 r1 h1 → RepL G P1 r1 x v → f v h1 = some z → S x H1) : RL G ea W σ H S := by
  refine ⟨O, P, r, env, h, ?_⟩
  unfold bndA at q
  split at q
  · rename_i v h1 he
    exact ⟨_, R, re, he, fun P1 r1 H1 x f R1 rv => step P1 r1 H1 x v h1 f R1 rv q⟩
  · rename_i c p h1 he
    cases q
    exact ⟨_, R, re, he, pv⟩
  · cases q
/-- the last step: a value -/
theorem fin {P P1 H : Hp} {r r1 : List Addr} {h : Hq} {Q : VK} {x : V} {v : Val} {z : Ev.R × Hq} (pv : PV G O P r Q W z) (e : some (Ev.R.val v, h) = some z) (f : Fut P r P1 r1) (R : RelH G O P1 H r1 h) (rv : RepV G P1 r1 x v) : Q x H := by
  cases e
  exact pv P1 r1 H x f R rv
theorem ok_var {i : Nat} {x : Str} (F : CallS) (hN : X.N[i]? = some x) (hv : Vis X.env.scope x) (hd : (x == ("__debug__" : Str)) = false) (hcd : (x == ("__classdict__" : Str)) = false) : PE X (.Name x pos) (RE G (evE F (.var i)) W) := by
  refine PE.monoR (pe_var (i := i) hN hv hd hcd) fun σ H Q q => ?_
  obtain ⟨O, P, r, env, h, z, R, e, q, pv⟩ := q
  simp only [evE] at q
  split at q
  · rename_i v hv
    obtain ⟨y, e1, e2⟩ := e.at_ i v hv
    exact ⟨y, e1, fin pv q .refl R e2⟩
  · cases q
theorem ok_con {e : Expr} {v : V} {c : D} {F : CallS} (h : PE X e (tC v)) (hr : ∀ P, Rp G.K P v c) : PE X e (RE G (evE F (.con c)) W) := by
  refine PE.monoR h fun σ H Q q => ?_
  obtain ⟨O, P, r, env, h, z, R, e, q, pv⟩ := q
  simp only [evE] at q
  exact fin pv q .refl R (hr P)
theorem ok_glob {e : Expr} {v : V} {c : D} {x : Str} {F : CallS} (h : PE X e (tC v)) (hr : ∀ P, Rp G.K P v c) : PE X e (RE G (evE F (.glob x c)) W) := by
  refine PE.monoR h fun σ H Q q => ?_
  obtain ⟨O, P, r, env, h, z, R, e, q, pv⟩ := q
  simp only [evE] at q
  exact fin pv q .refl R (hr P)

/-! arguments -/
theorem ok_nil {F : CallS} : PA X [] (RL G (evEs F []) W) := by
  refine PA.monoR pa_nil fun σ H Q q => ?_
  obtain ⟨O, P, r, env, h, z, R, e, q, pv⟩ := q
  simp only [evEs] at q
  cases q
  exact pv P r H [] .refl R .nil
theorem ok_cons {a : Expr} {as : List Expr} {e : E} {es : List E} {F : CallS} (ha : PE X a (RE G (evE F e) W)) (has : PA X as (RL G (evEs F es) W)) (hs : starEach (a :: as) X.env = (false, eval a X.env) :: starEach as X.env) : PA X (a :: as) (RL G (evEs F (e :: es)) W) := by
  refine PA.monoR (pa_cons ha has hs) fun σ H Q q => ?_
  obtain ⟨O, P, r, env, h, z, R, he, q, pv⟩ := q
  simp only [evEs] at q
  unfold consA at q
  split at q
  · rename_i v h1 e1
    refine ⟨O, P, r, env, h, _, R, he, e1, fun P1 r1 H1 x f1 R1 rv => ?_⟩
    split at q
    · rename_i vs h2 e2
      cases q
      refine ⟨O, P1, r1, env, h1, _, R1, he.fut f1, e2, fun P2 r2 H2 xs f2 R2 rvs => ?_⟩
      exact pv P2 r2 H2 (x :: xs) (f1.trans f2) R2 (.cons (rv.fut f2) rvs)
    · rename_i c p h2 e2
      cases q
      exact ⟨O, P1, r1, env, h1, _, R1, he.fut f1, e2, fun P2 r2 H2 d x f2 => pv P2 r2 H2 d x (f1.trans f2)⟩
    · cases q
  · rename_i c p h1 e1
    cases q
    exact ⟨O, P, r, env, h, _, R, he, e1, pv⟩
  · cases q
theorem RepL.length {P : Hp} {r : List Addr} {xs : List V} {vs : List Val} (h : RepL G P r xs vs) : xs.length = vs.length := Paired.length h
theorem pureL_rep {P : Hp} {r : List Addr} : ∀ {xs : List V} {vs : List Val} {ds : List D}, RepL G P r xs vs → pureL vs = some ds → RpAll G.K P xs ds
  | _, _, _, .nil, e => by
    simp only [pureL, Option.some.injEq] at e
    subst e
    exact .nil
  | _, _, _, .cons (b := v) a t, e => by
    cases v with
    | ref n => simp [pureL] at e
    | d x =>
      simp only [pureL] at e
      split at e
      · rename_i es he
        cases e
        exact .cons a (pureL_rep t he)
      · cases e

theorem ok_tup {as : List Expr} {es : List E} {F : CallS} {k : Nat} (ha : PA X as (RL G (evEs F es) W)) : PE X (.Tuple as k pos) (RE G (evE F (.tup es)) W) := by
  refine PE.monoR (pe_tup ha) fun σ H Q q => ?_
  obtain ⟨O, P, r, env, h, z, R, re, q, pv⟩ := q
  simp only [evE] at q
  refine goA R re q pv fun P1 r1 H1 x v h1 f R1 rl e => ?_
  split at e
  · rename_i ds hds
    have ra := pureL_rep rl hds
    split at e
    · rename_i hl
      rw [line_eq] at hl
      have hx : x.length ≤ sizeLine := by rw [ra.length]; exact hl
      refine ⟨hx, fun p hp => ?_⟩
      obtain ⟨R2, f2⟩ := R1.newP (o := .tup x) hp (fun ps z => by cases z)
      exact fin pv e (f.trans f2) R2 (.tup (.inl (.inl upd_same)) hx (ra.mono f2.same))
    · cases e
  · cases e
theorem ok_lst {as : List Expr} {es : List E} {F : CallS} (ha : PA X as (RL G (evEs F es) W)) : PE X (.List as pos) (RE G (evE F (.lst es)) W) := by
  refine PE.monoR (pe_lst ha) fun σ H Q q => ?_
  obtain ⟨O, P, r, env, h, z, R, re, q, pv⟩ := q
  simp only [evE] at q
  refine goA R re q pv fun P1 r1 H1 x v h1 f R1 rl e => ?_
  split at e
  · rename_i ds hds
    have ra := pureL_rep rl hds
    split at e
    · rename_i hl
      rw [line_eq] at hl
      have hx : x.length ≤ sizeLine := by rw [ra.length]; exact hl
      refine ⟨hx, fun p hp => ?_⟩
      obtain ⟨R2, f2⟩ := R1.newP (o := .lst x) hp (fun ps z => by cases z)
      exact fin pv e (f.trans f2) R2 (.lst upd_same hx (ra.mono f2.same))
    · cases e
  · cases e
theorem new_at {r : List Addr} {h : Hq} {p : Addr} (e : r.length = h.length) : (r ++ [p])[h.length]? = some p := by
  rw [← e]
  simp
theorem ok_nlst {as : List Expr} {es : List E} {F : CallS} (ha : PA X as (RL G (evEs F es) W)) : PE X (.List as pos) (RE G (evE F (.nlst es)) W) := by
  refine PE.monoR (pe_lst ha) fun σ H Q q => ?_
  obtain ⟨O, P, r, env, h, z, R, re, q, pv⟩ := q
  simp only [evE] at q
  refine goA R re q pv fun P1 r1 H1 x v h1 f R1 rl e => ?_
  split at e
  · rename_i ds hds
    have ra := pureL_rep rl hds
    split at e
    · rename_i hl
      rw [line_eq] at hl
      have hx : x.length ≤ sizeLine := by rw [ra.length]; exact hl
      refine ⟨hx, fun p hp => ?_⟩
      obtain ⟨R2, f2⟩ := R1.newL hp hx ra
      exact fin pv e (f.trans f2) R2 ⟨p, rfl, new_at R1.len⟩
    · cases e
  · cases e

/-! operators -/
theorem rd_fin {o : B2} {P P1 P2 H2 : Hp} {r r1 r2 : List Addr} {h2 : Hq} {x y : V} {a b : Val} {z : Ev.R × Hq} {Q : VK} (pv : PV G O P r Q W z) (f : Fut P r P1 r1) (f2 : Fut P1 r1 P2 r2) (R2 : RelH G O P2 H2 r2 h2) (ra : RepV G P1 r1 x a) (rb : RepV G P2 r2 y b)
    (e : (match opnd o h2 a, opnd o h2 b with
    | some dx, some dy => (match sem2 o dx dy with
      | some z => some (Ev.R.val (.d z), h2)
      | none => none)
    | _, _ => none) = some z) : rD G o.arith (sem2 o) x y H2 Q := by
  split at e
  · rename_i dx dy e1 e2
    split at e
    · rename_i w e3
      exact rD_of R2 (ra.fut f2) rb e1 e2 e3 fun P3 H3 w f3 R3 rw => fin pv e ((f.trans f2).trans f3) R3 rw
    · cases e
  · cases e
theorem bin_core {o : B2} {a b : E} {F : CallS} (σ : L2.St) (H : Hp) (Q : VK) (q : RE G (evE F (.bin o a b)) W σ H Q) : tOp (rD G o.arith (sem2 o)) (RE G (evE F a) W) (RE G (evE F b) W) σ H Q := by
  obtain ⟨O, P, r, env, h, z, R, re, q, pv⟩ := q
  simp only [evE] at q
  refine go R re q pv fun P1 r1 H1 x v h1 f R1 rv e => ?_
  exact go R1 (re.fut f) e (pv.fut f) fun P2 r2 H2 y u h2 f2 R2 ru e => rd_fin pv f f2 R2 rv ru e
def bop : B2 → Option Operator
  | .add => some .Add | .sub => some .Sub | .mul => some .Mult | .fdiv => some .FloorDiv | .mod => some .Mod | .pow => some .Pow
  | _ => none
def cop : B2 → Option CmpOp
  | .eq => some .Eq | .ne => some .NotEq | .lt => some .Lt | .le => some .LtE | .gt => some .Gt | .ge => some .GtE
  | .isin => some .In | .notin => some .NotIn | .is_ => some .Is | .isnot => some .IsNot
  | _ => none
theorem bop_fn {o : B2} {p : Operator} (h : bop o = some p) : fnOf o = binaryOp p := by
  cases o <;> simp only [bop, Option.some.injEq, reduceCtorEq] at h <;> subst h <;> rfl
theorem cop_fn {o : B2} {p : CmpOp} (h : cop o = some p) : fnOf o = compareOp p := by
  cases o <;> simp only [cop, Option.some.injEq, reduceCtorEq] at h <;> subst h <;> rfl
theorem ok_bin {o : B2} {p : Operator} {a b : Expr} {ea eb : E} {F : CallS} (g : Good G X W) (hp : bop o = some p) (ha : PE X a (RE G (evE F ea) W)) (hb : PE X b (RE G (evE F eb) W)) : PE X (.BinOp a p b pos) (RE G (evE F (.bin o ea eb)) W) :=
  PE.monoR (pe_op (bop_fn hp ▸ ok_b2 g.hu g.hK o) ha hb) bin_core
theorem ok_cmp {o : B2} {p : CmpOp} {a b : Expr} {ea eb : E} {F : CallS} (g : Good G X W) (hp : cop o = some p) (ha : PE X a (RE G (evE F ea) W)) (hb : PE X b (RE G (evE F eb) W)) (hm : behindInMarks p b = false) : PE X (.Compare a [p] [b] pos) (RE G (evE F (.bin o ea eb)) W) :=
  PE.monoR (pe_cmpR (cop_fn hp ▸ ok_b2 g.hu g.hK o) ha hb hm) bin_core
theorem ok_cmpT {o : B2} {p : CmpOp} {a b : Expr} {ea eb : E} {F : CallS} (g : Good G X W) (hp : cop o = some p) (ha : PE X a (RE G (evE F ea) W)) (hb : PE X b (RE G (evE F eb) W)) (hm : behindInMarks p b = false) : PT X (.Compare a [p] [b] pos) (RT G (evE F (.bin o ea eb)) W) :=
  PT.monoR (pt_cmpR (cop_fn hp ▸ ok_b2 g.hu g.hK o) ha hb hm) fun σ H Q q => bin_core σ H _ q
theorem chain_core {o o' : B2} {a b c : E} {F : CallS} (σ : L2.St) (H : Hp) (Q : VK) (q : RE G (evE F (.chain o o' a b c)) W σ H Q) : tChain (rD G o.arith (sem2 o)) (rD G o'.arith (sem2 o')) (RE G (evE F a) W) (RE G (evE F b) W) (RE G (evE F c) W) σ H Q := by
  obtain ⟨O, P, r, env, h, z, R, re, q, pv⟩ := q
  simp only [evE] at q
  refine go R re q pv fun P1 r1 H1 x v h1 f R1 rv e => ?_
  refine go R1 (re.fut f) e (pv.fut f) fun P2 r2 H2 y u h2 f2 R2 ru e => ?_
  split at e
  · rename_i dx dy e1 e2
    split at e
    · rename_i e3
      refine rD_of R2 (rv.fut f2) ru e1 e2 e3 fun P3 H3 w f3 R3 rw' => ?_
      cases rw'
      refine ⟨true, rfl, ?_⟩
      refine iteT ?_
      refine go R3 (re.fut ((f.trans f2).trans f3)) e (pv.fut ((f.trans f2).trans f3)) fun P4 r4 H4 z' u' h4 f4 R4 ru' e => ?_
      exact rd_fin (pv.fut (f.trans f2)) f3 f4 R4 (ru.fut f3) ru' e
    · rename_i e3
      refine rD_of R2 (rv.fut f2) ru e1 e2 e3 fun P3 H3 w f3 R3 rw' => ?_
      cases rw'
      refine ⟨false, rfl, ?_⟩
      refine iteF ?_
      exact fin pv e ((f.trans f2).trans f3) R3 (.bl _)
    · cases e
  · cases e
theorem ok_chain {o o' : B2} {p p' : CmpOp} {a b c : Expr} {ea eb ec : E} {F : CallS} (g : Good G X W) (hp : cop o = some p) (hp' : cop o' = some p') (ha : PE X a (RE G (evE F ea) W)) (hb : PE X b (RE G (evE F eb) W)) (hc : PE X c (RE G (evE F ec) W)) (hm : lastMarks [p, p'] [b, c] = false) :
    PE X (.Compare a [p, p'] [b, c] pos) (RE G (evE F (.chain o o' ea eb ec)) W) :=
  PE.monoR (pe_chain (cop_fn hp ▸ ok_b2 g.hu g.hK o) (cop_fn hp' ▸ ok_b2 g.hu g.hK o') ha hb hc hm) chain_core
theorem ok_chainT {o o' : B2} {p p' : CmpOp} {a b c : Expr} {ea eb ec : E} {F : CallS} (g : Good G X W) (hp : cop o = some p) (hp' : cop o' = some p') (ha : PE X a (RE G (evE F ea) W)) (hb : PE X b (RE G (evE F eb) W)) (hc : PE X c (RE G (evE F ec) W)) (hm : lastMarks [p, p'] [b, c] = false) :
    PT X (.Compare a [p, p'] [b, c] pos) (RT G (evE F (.chain o o' ea eb ec)) W) :=
  PT.monoR (pt_chain (cop_fn hp ▸ ok_b2 g.hu g.hK o) (cop_fn hp' ▸ ok_b2 g.hu g.hK o') ha hb hc hm) fun σ H Q q => chain_core σ H _ q
theorem ok_neg {a : Expr} {ea : E} {F : CallS} (ha : PE X a (RE G (evE F ea) W)) : PE X (.UnaryOp .USub a pos) (RE G (evE F (.un .neg ea)) W) := by
  refine PE.monoR (pe_un un_neg ha) fun σ H Q q => ?_
  obtain ⟨O, P, r, env, h, z, R, re, q, pv⟩ := q
  simp only [evE] at q
  refine go R re q pv fun P1 r1 H1 x v h1 f R1 rv e => ?_
  split at e
  · rename_i dx
    cases dx with
    | int i =>
      cases rv
      exact ⟨i, rfl, fin pv e f R1 (.int _)⟩
    | _ => cases e
  · cases e
/-! truth -/
theorem RT.of_test {t : TT} {ev : Env → Hq → ER} (σ : L2.St) (H : Hp) (Q : Bool → Hp → Prop) (q : RT G ev W σ H Q) (k : ∀ (Q : VK), RE G ev W σ H Q → t σ H fun b H1 => Q (.bl b) H1) (hi : ∀ σ H (Q Q' : Bool → Hp → Prop), t σ H Q → (∀ b H, Q b H → Q' b H) → t σ H Q') : t σ H Q :=
  hi _ _ _ _ (k _ q) fun b H ⟨c, e, q⟩ => by
    cases e
    exact q
theorem not_core {a : E} {F : CallS} (σ : L2.St) (H : Hp) (Q : Bool → Hp → Prop) (q : RT G (evE F (.un .not_ a)) W σ H Q) : tNot (RT G (evE F a) W) σ H Q := by
  obtain ⟨O, P, r, env, h, z, R, re, q, pv⟩ := q
  simp only [evE] at q
  refine go R re q pv fun P1 r1 H1 x v h1 f R1 rv e => ?_
  split at e
  · rename_i dx
    cases dx with
    | bool b =>
      cases rv
      refine ⟨b, rfl, ?_⟩
      obtain ⟨c, e2, q⟩ := fin pv e f R1 (.bl (!b))
      cases e2
      exact q
    | _ => cases e
  · cases e
theorem ok_notT {a : Expr} {ea : E} {F : CallS} (ha : PT X a (RT G (evE F ea) W)) : PT X (.UnaryOp .Not a pos) (RT G (evE F (.un .not_ ea)) W) := PT.monoR (pt_not ha) not_core
theorem ok_not {a : Expr} {ea : E} {F : CallS} (ha : PE X a (RE G (evE F ea) W)) : PE X (.UnaryOp .Not a pos) (RE G (evE F (.un .not_ ea)) W) := by
  refine PE.monoR (pe_not ha) fun σ H Q q => ?_
  obtain ⟨O, P, r, env, h, z, R, re, q, pv⟩ := q
  simp only [evE] at q
  refine go R re q pv fun P1 r1 H1 x v h1 f R1 rv e => ?_
  split at e
  · rename_i dx
    cases dx with
    | bool b =>
      cases rv
      exact ⟨b, rfl, fin pv e f R1 (.bl (!b))⟩
    | _ => cases e
  · cases e
/-- and, as a value -/
theorem ok_and {a b : Expr} {rest : List Expr} {ea eb : E} {F : CallS} (ha : PE X a (RE G (evE F ea) W)) (hb : PE X (.BoolOp .And (b :: rest) pos) (RE G (evE F eb) W)) : PE X (.BoolOp .And (a :: b :: rest) pos) (RE G (evE F (.and_ ea eb)) W) := by
  refine PE.monoR (pe_and ha hb) fun σ H Q q => ?_
  obtain ⟨O, P, r, env, h, z, R, re, q, pv⟩ := q
  simp only [evE] at q
  refine go R re q pv fun P1 r1 H1 x v h1 f R1 rv e => ?_
  split at e
  · cases rv
    refine ⟨true, rfl, ?_⟩
    refine iteT ?_
    exact ⟨O, P1, r1, env, h1, z, R1, re.fut f, e, pv.fut f⟩
  · cases rv
    refine ⟨false, rfl, ?_⟩
    refine iteF ?_
    exact fin pv e f R1 (.bl _)
  · cases e
theorem ok_or {a b : Expr} {rest : List Expr} {ea eb : E} {F : CallS} (ha : PE X a (RE G (evE F ea) W)) (hb : PE X (.BoolOp .Or (b :: rest) pos) (RE G (evE F eb) W)) : PE X (.BoolOp .Or (a :: b :: rest) pos) (RE G (evE F (.or_ ea eb)) W) := by
  refine PE.monoR (pe_or ha hb) fun σ H Q q => ?_
  obtain ⟨O, P, r, env, h, z, R, re, q, pv⟩ := q
  simp only [evE] at q
  refine go R re q pv fun P1 r1 H1 x v h1 f R1 rv e => ?_
  split at e
  · cases rv
    refine ⟨true, rfl, ?_⟩
    refine iteT ?_
    exact fin pv e f R1 (.bl _)
  · cases rv
    refine ⟨false, rfl, ?_⟩
    refine iteF ?_
    exact ⟨O, P1, r1, env, h1, z, R1, re.fut f, e, pv.fut f⟩
  · cases e
/-- .. as tests -/
theorem and_core {a b : E} {F : CallS} (σ : L2.St) (H : Hp) (Q : Bool → Hp → Prop) (q : RT G (evE F (.and_ a b)) W σ H Q) : tAnd (RT G (evE F a) W) (RT G (evE F b) W) σ H Q := by
  obtain ⟨O, P, r, env, h, z, R, re, q, pv⟩ := q
  simp only [evE] at q
  refine go R re q pv fun P1 r1 H1 x v h1 f R1 rv e => ?_
  split at e
  · cases rv
    refine ⟨true, rfl, ?_⟩
    refine iteT ?_
    exact ⟨O, P1, r1, env, h1, z, R1, re.fut f, e, pv.fut f⟩
  · cases rv
    refine ⟨false, rfl, ?_⟩
    refine iteF ?_
    obtain ⟨c, e2, q⟩ := fin pv e f R1 (.bl false)
    cases e2
    exact q
  · cases e
theorem or_core {a b : E} {F : CallS} (σ : L2.St) (H : Hp) (Q : Bool → Hp → Prop) (q : RT G (evE F (.or_ a b)) W σ H Q) : tOr (RT G (evE F a) W) (RT G (evE F b) W) σ H Q := by
  obtain ⟨O, P, r, env, h, z, R, re, q, pv⟩ := q
  simp only [evE] at q
  refine go R re q pv fun P1 r1 H1 x v h1 f R1 rv e => ?_
  split at e
  · cases rv
    refine ⟨true, rfl, ?_⟩
    refine iteT ?_
    obtain ⟨c, e2, q⟩ := fin pv e f R1 (.bl true)
    cases e2
    exact q
  · cases rv
    refine ⟨false, rfl, ?_⟩
    refine iteF ?_
    exact ⟨O, P1, r1, env, h1, z, R1, re.fut f, e, pv.fut f⟩
  · cases e
theorem PW.monoR {X : Cx} {e : Expr} {t t' : TT} (p : PW X e t) (m : ∀ σ H Q, t' σ H Q → t σ H Q) : PW X e t' := ⟨fun w pins s σ H Q I q => p.run w pins s σ H Q I (m _ _ _ q)⟩
theorem ok_andW {a b : Expr} {rest : List Expr} {ea eb : E} {F : CallS} (ha : PT X a (RT G (evE F ea) W)) (hb : PW X (.BoolOp .And (b :: rest) pos) (RT G (evE F eb) W)) : PW X (.BoolOp .And (a :: b :: rest) pos) (RT G (evE F (.and_ ea eb)) W) := PW.monoR (pw_and ha hb) and_core
theorem ok_orW {a b : Expr} {rest : List Expr} {ea eb : E} {F : CallS} (ha : PT X a (RT G (evE F ea) W)) (hb : PW X (.BoolOp .Or (b :: rest) pos) (RT G (evE F eb) W)) : PW X (.BoolOp .Or (a :: b :: rest) pos) (RT G (evE F (.or_ ea eb)) W) := PW.monoR (pw_or ha hb) or_core
theorem ok_ife {c a b : Expr} {ec ea eb : E} {F : CallS} (hc : PT X c (RT G (evE F ec) W)) (ha : PE X a (RE G (evE F ea) W)) (hb : PE X b (RE G (evE F eb) W)) : PE X (.IfExp c a b pos) (RE G (evE F (.ife ec ea eb)) W) := by
  refine PE.monoR (pe_ifExp hc ha hb) fun σ H Q q => ?_
  obtain ⟨O, P, r, env, h, z, R, re, q, pv⟩ := q
  simp only [evE] at q
  refine go R re q pv fun P1 r1 H1 x v h1 f R1 rv e => ?_
  split at e
  · cases rv
    refine ⟨true, rfl, ?_⟩
    refine iteT ?_
    exact ⟨O, P1, r1, env, h1, z, R1, re.fut f, e, pv.fut f⟩
  · cases rv
    refine ⟨false, rfl, ?_⟩
    refine iteF ?_
    exact ⟨O, P1, r1, env, h1, z, R1, re.fut f, e, pv.fut f⟩
  · cases e
/-- any other expression as a test -/
theorem ok_test {e : Expr} {ev : Env → Hq → ER} (h : PE X e (RE G ev W)) (he : ∀ whole, isTrue e X.env whole = (do let v ← whole; standAt e.pos; holding [v] (truthy v))) : PT X e (RT G ev W) := PT.monoR (pt_val h he) fun σ H Q q => q
/-! subscripts -/
theorem atD_atI {K : PySem.W.Frag} {P : Hp} {xs : List V} {ds : List D} {i : Int} {d : D} (h : RpAll K P xs ds) (e : atD ds i = some d) : ∃ x, atI xs i = some x ∧ Rp K P x d := by
  unfold atD at e
  unfold atI
  rw [h.length]
  have hx : ixN ds.length i = ixOf ds.length i := rfl
  rw [hx]
  cases q : ixOf ds.length i with
  | none => rw [q] at e; cases e
  | some j =>
    rw [q] at e
    exact RpAll.get h e
theorem ok_idx {a b : Expr} {ea eb : E} {F : CallS} (g : Good G X W) (ha : PE X a (RE G (evE F ea) W)) (hb : PE X b (RE G (evE F eb) W)) (hs : PlainIx b) : PE X (.Subscript a b pos) (RE G (evE F (.idx ea eb)) W) := by
  refine PE.monoR (pe_ix ix_seq ha hb hs) fun σ H Q q => ?_
  obtain ⟨O, P, r, env, h, z, R, re, q, pv⟩ := q
  simp only [evE] at q
  refine go R re q pv fun P1 r1 H1 x v h1 f R1 rv e => ?_
  refine go R1 (re.fut f) e (pv.fut f) fun P2 r2 H2 y u h2 f2 R2 ru e => ?_
  split at e
  · rename_i dx i e1
    cases ru
    split at e
    · rename_i ds e2
      split at e
      · rename_i d e3
        obtain ⟨c, xs, rfl, hl, hx, k⟩ := view_items R2 (rv.fut f2) e1 e2
        obtain ⟨w, e4, rw'⟩ := atD_atI hx e3
        have q2 := fin pv e (f.trans f2) R2 rw'
        rcases k with ⟨_, k⟩ | ⟨_, k⟩
        · exact .inl ⟨c, xs, i, w, rfl, rfl, g.hK ▸ k, e4, q2⟩
        · exact .inr (.inl ⟨c, xs, i, w, rfl, rfl, g.hK ▸ k, e4, q2⟩)
      · cases e
    · cases e
  · cases e
end
end Ev
end

section
set_option Elab.async false
set_option linter.all false
set_option maxRecDepth 100000
set_option autoImplicit false
/-! slices, built-ins, methods of lists -/
namespace Ev
open PySem PySem.Spec PyProof.Rows L2
variable {O : Hp}
section
variable {G : GI} {X : Cx} {W : XK} {pos : Pos}
/-- a slice's bound -/
def partS (S : Option Int → Hp → Prop) : List V → Hp → Prop
  | [], H => S none H
  | [.int i], H => S (some i) H
  | _, _ => False
def RO (G : GI) (ev : Env → Hq → AR) (W : XK) : TO := fun σ H Q => RL G ev W σ H (partS Q)
theorem PO.monoR {e : Option Expr} {t t' : TO} (p : PO X e t) (m : ∀ σ H Q, t' σ H Q → t σ H Q) : PO X e t' := ⟨fun pins s σ H Q I q => p.run pins s σ H Q I (m _ _ _ q)⟩
theorem ok_po0 {F : CallS} : PO X none (RO G (evEs F []) W) := by
  refine PO.monoR po_none fun σ H Q q => ?_
  obtain ⟨O, P, r, env, h, z, R, re, q, pv⟩ := q
  simp only [evEs] at q
  cases q
  exact pv P r H [] .refl R .nil
theorem ok_po1 {a : Expr} {ea : E} {F : CallS} (ha : PE X a (RE G (evE F ea) W)) : PO X (some a) (RO G (evEs F [ea]) W) := by
  refine PO.monoR (po_some ha) fun σ H Q q => ?_
  obtain ⟨O, P, r, env, h, z, R, re, q, pv⟩ := q
  simp only [evEs] at q
  unfold consA at q
  split at q
  · rename_i v h1 e1
    cases q
    refine ⟨O, P, r, env, h, _, R, re, e1, fun P1 r1 H1 x f1 R1 rv => ?_⟩
    have q2 := pv P1 r1 H1 [x] f1 R1 (.cons rv .nil)
    cases x with
    | int i => exact ⟨i, rfl, q2⟩
    | _ => exact q2.elim
  · rename_i c p h1 e1
    cases q
    exact ⟨O, P, r, env, h, _, R, re, e1, pv⟩
  · cases q
theorem part_of {P : Hp} {r : List Addr} {xs : List V} {vs : List Val} {o : Option Int} (h : RepL G P r xs vs) (e : partOf vs = some o) {S : Option Int → Hp → Prop} {H : Hp} (q : S o H) : partS S xs H := by
  cases h with
  | nil =>
    simp only [partOf, Option.some.injEq] at e
    subst e
    exact q
  | cons a t =>
    cases t with
    | cons b t => simp [partOf] at e
    | nil =>
      rename_i v
      cases v with
      | ref n => simp [partOf] at e
      | d y =>
        cases a with
        | int i =>
          simp only [partOf, Option.some.injEq] at e
          subst e
          exact q
        | _ => simp [partOf] at e
theorem cut_rep {K : PySem.W.Frag} {P : Hp} {xs : List V} {ds : List D} (h : RpAll K P xs ds) (lo hi : Option Int) : RpAll K P (cutV xs lo hi) (cutD ds lo hi) := by
  unfold cutV cutD
  rw [h.length]
  exact (h.drop _).take _
theorem cut_whole (ds : List D) (lo hi : Option Int) (h : HT.sIx ds.length 0 lo = 0 ∧ HT.sIx ds.length ds.length hi = ds.length) : cutD ds lo hi = ds := by
  unfold cutD
  rw [h.1, h.2]
  simp
/-- what goes on behind a slice's first bound: its state is carried -/
theorem ok_slice {a : Expr} {lo hi : Option Expr} {ea : E} {el eu : List E} {p2 : Pos} {F : CallS} (g : Good G X W) (ha : PE X a (RE G (evE F ea) W)) (hl : PO X lo (RO G (evEs F el) W)) (hu : PO X hi (RO G (evEs F eu) W)) : PE X (.Subscript a (.Slice lo hi none p2) pos) (RE G (evE F (.slice ea el eu)) W) := by
  refine PE.monoR (pe_slice (sl_list.or sl_tupA) ha hl hu) fun σ H Q q => ?_
  obtain ⟨O, P, r, env, h, z, R, re, q, pv⟩ := q
  simp only [evE] at q
  refine go R re q pv fun P1 r1 H1 x v h1 f R1 rv e => ?_
  refine goA R1 (re.fut f) e (pv.fut f) fun P2 r2 H2 xs vs h2 f2 R2 rl e => ?_
  split at e
  · rename_i o ho
    refine part_of (S := fun l H2 => RO G (evEs F eu) W σ H2 (fun u H3 => (rSlL X.K x l u H3 Q ∨ rSlA X.K x l u H3 Q))) rl ho ?_
    refine goA R2 (re.fut (f.trans f2)) e (pv.fut (f.trans f2)) fun P3 r3 H3 ys us h3 f3 R3 ru e => ?_
    split at e
    · rename_i u hu'
      refine part_of (S := fun u H3 => (rSlL X.K x o u H3 Q ∨ rSlA X.K x o u H3 Q)) ru hu' ?_
      have rv3 := rv.fut (f2.trans f3)
      split at e
      · rename_i ds e1
        obtain ⟨c, zs, rfl, hz, hx, k⟩ := view_items R3 rv3 e1 rfl
        rcases k with ⟨_, k⟩ | ⟨k, _⟩
        · refine .inl ⟨c, zs, rfl, g.hK ▸ k, fun p hp => ?_⟩
          obtain ⟨R4, f4⟩ := R3.newP (o := .lst (cutV zs o u)) hp (fun ps z => by cases z)
          exact fin pv e (((f.trans f2).trans f3).trans f4) R4 (.lst upd_same (Nat.le_trans (cutV_length _ _ _) hz) ((cut_rep hx o u).mono f4.same))
        · cases k
      · rename_i ds e1
        obtain ⟨c, zs, rfl, hz, hx, k⟩ := view_items R3 rv3 e1 rfl
        rcases k with ⟨k, _⟩ | ⟨_, k⟩
        · cases k
        · refine .inr ⟨c, zs, rfl, g.hK ▸ k, fun hw => ?_, fun hw p hp => ?_⟩
          · rw [hx.length] at hw
            rw [cut_whole _ _ _ hw] at e
            have e9 := e
            cases v with
            | d y =>
              simp only [viewV, Option.some.injEq] at e1
              subst e1
              exact fin pv e9 ((f.trans f2).trans f3) R3 rv3
            | ref n =>
              obtain ⟨es, o, e4, _⟩ := view_ref e1
              cases e4
          · obtain ⟨R4, f4⟩ := R3.newP (o := .tup (cutV zs o u)) hp (fun ps z => by cases z)
            exact fin pv e (((f.trans f2).trans f3).trans f4) R4 (.tup (.inl (.inl upd_same)) (Nat.le_trans (cutV_length _ _ _) hz) ((cut_rep hx o u).mono f4.same))
      · cases e
    · cases e
  · cases e

/-! built-ins -/
theorem viewL_cons {h : Hq} {v : Val} {vs : List Val} {ds : List D} (e : viewL h (v :: vs) = some ds) : ∃ d es, viewV h v = some d ∧ viewL h vs = some es ∧ ds = d :: es := by
  simp only [viewL] at e
  split at e
  · rename_i d hd
    split at e
    · rename_i es he
      cases e
      exact ⟨d, es, hd, he, rfl⟩
    · cases e
  · cases e
/-- one argument -/
theorem arg1 {P : Hp} {r : List Addr} {h : Hq} {xs : List V} {vs : List Val} {d : D} (rl : RepL G P r xs vs) (e : viewL h vs = some [d]) : ∃ x v, xs = [x] ∧ vs = [v] ∧ RepV G P r x v ∧ viewV h v = some d := by
  cases rl with
  | nil => cases e
  | cons a t =>
    obtain ⟨d', es, e1, e2, e3⟩ := viewL_cons e
    cases e3
    cases t with
    | nil => exact ⟨_, _, rfl, rfl, a, e1⟩
    | cons b t =>
      obtain ⟨_, _, _, _, e6⟩ := viewL_cons e2
      cases e6
theorem arg2 {P : Hp} {r : List Addr} {h : Hq} {xs : List V} {vs : List Val} {d d' : D} (rl : RepL G P r xs vs) (e : viewL h vs = some [d, d']) : ∃ x y v u, xs = [x, y] ∧ vs = [v, u] ∧ RepV G P r x v ∧ viewV h v = some d ∧ RepV G P r y u ∧ viewV h u = some d' := by
  cases rl with
  | nil => cases e
  | cons a t =>
    obtain ⟨d', es, e1, e2, e3⟩ := viewL_cons e
    cases e3
    obtain ⟨x, v, rfl, rfl, b, e4⟩ := arg1 t e2
    exact ⟨_, _, _, _, rfl, rfl, a, e1, b, e4⟩
/-- what a built-in makes of data -/
def rC (G : GI) (f : List D → Option D) : List V → Hp → VK → Prop := fun xs H Q => ∃ (O P : Hp) (r : List Addr) (h : Hq) (vs : List Val) (ds : List D) (z : D), RelH G O P H r h ∧ RepL G P r xs vs ∧ viewL h vs = some ds ∧ f ds = some z ∧
  ∀ (P1 H1 : Hp) (w : V), Fut P r P1 r → RelH G O P1 H1 r h → Rp G.K P1 w z → Q w H1
theorem bi_core {f : BI} {es : List E} {F : CallS} (σ : L2.St) (H : Hp) (Q : VK) (q : RE G (evE F (.bi f es)) W σ H Q) : tCB (rC G (semB f)) (RL G (evEs F es) W) σ H Q := by
  obtain ⟨O, P, r, env, h, z, R, re, q, pv⟩ := q
  simp only [evE] at q
  refine goA R re q pv fun P1 r1 H1 x v h1 f R1 rl e => ?_
  split at e
  · rename_i ds e1
    split at e
    · rename_i w e2
      exact ⟨O, P1, r1, h1, v, ds, w, R1, rl, e1, e2, fun P2 H2 y f2 R2 ry => fin pv e (f.trans f2) R2 ry⟩
    · cases e
  · cases e
theorem semB_1 {f : BI} {xs : List D} {z : D} (h : semB f xs = some z) (hf : f ≠ .min ∧ f ≠ .max ∧ f ≠ .listR ∧ f ≠ .tupleR) : ∃ x, xs = [x] := by
  unfold semB at h
  split at h <;> first | exact ⟨_, rfl⟩ | (cases h; done) | exact absurd rfl hf.1 | exact absurd rfl hf.2.1 | exact absurd rfl hf.2.2.1 | exact absurd rfl hf.2.2.2
theorem ok_abs : CallR X (.builtin "abs") (rC G (semB .abs)) := by
  refine CallR.imp call_abs fun x H Q q => ?_
  obtain ⟨O, P, r, h, vs, ds, z, R, rl, e, e2, k⟩ := q
  obtain ⟨d, rfl⟩ := semB_1 e2 (by decide)
  obtain ⟨y, v, rfl, rfl, rv, ev⟩ := arg1 rl e
  unfold semB at e2
  cases d with
  | int i =>
    cases e2
    exact ⟨i, by rw [view_int rv ev], k P H _ .refl R (.int _)⟩
  | _ => cases e2
theorem ok_len (hK : G.K = X.K) : CallR X (.builtin "len") (rC G (semB .len)) := by
  refine CallR.imp call_len fun x H Q q => ?_
  obtain ⟨O, P, r, h, vs, ds, z, R, rl, e, e2, k⟩ := q
  obtain ⟨d, rfl⟩ := semB_1 e2 (by decide)
  obtain ⟨y, v, rfl, rfl, rv, ev⟩ := arg1 rl e
  unfold semB at e2
  cases d with
  | str s =>
    cases e2
    obtain ⟨rfl, hl⟩ := view_str rv ev
    exact ⟨_, _, rfl, ⟨hl, rfl⟩, k P H _ .refl R (.int _)⟩
  | list xs =>
    cases e2
    obtain ⟨c, zs, rfl, hz, hx, kk⟩ := view_items R rv ev rfl
    rcases kk with ⟨_, kk⟩ | ⟨kk, _⟩
    · exact ⟨_, xs.length, rfl, .inl ⟨zs, hK ▸ kk, hx.length.symm⟩, k P H _ .refl R (.int _)⟩
    · cases kk
  | tuple xs =>
    cases e2
    obtain ⟨c, zs, rfl, hz, hx, kk⟩ := view_items R rv ev rfl
    rcases kk with ⟨kk, _⟩ | ⟨_, kk⟩
    · cases kk
    · exact ⟨_, xs.length, rfl, .inr ⟨zs, hK ▸ kk, hx.length.symm⟩, k P H _ .refl R (.int _)⟩
  | _ => cases e2
theorem ok_int : CallR X (.type "int") (rC G (semB .int)) := by
  refine CallR.imp call_int1 fun x H Q q => ?_
  obtain ⟨O, P, r, h, vs, ds, z, R, rl, e, e2, k⟩ := q
  obtain ⟨d, rfl⟩ := semB_1 e2 (by decide)
  obtain ⟨y, v, rfl, rfl, rv, ev⟩ := arg1 rl e
  unfold semB at e2
  cases d with
  | int i =>
    cases e2
    exact .inl ⟨i, by rw [view_int rv ev], k P H _ .refl R (.int _)⟩
  | _ => cases e2
theorem ok_tuple (hK : G.K = X.K) : CallR X (.type "tuple") (rC G (semB .tuple)) := by
  refine CallR.imp call_tuple_of fun x H Q q => ?_
  obtain ⟨O, P, r, h, vs, ds, z, R, rl, e, e2, k⟩ := q
  obtain ⟨d, rfl⟩ := semB_1 e2 (by decide)
  obtain ⟨y, v, rfl, rfl, rv, ev⟩ := arg1 rl e
  unfold semB at e2
  cases d with
  | list xs =>
    cases e2
    obtain ⟨c, zs, rfl, hz, hx, kk⟩ := view_items R rv ev rfl
    rcases kk with ⟨_, kk⟩ | ⟨kk, _⟩
    · refine ⟨c, zs, rfl, .inl ⟨hK ▸ kk, fun l hl => ?_⟩⟩
      obtain ⟨R1, f⟩ := R.newP (o := .tup zs) hl (fun ps z => by cases z)
      exact k _ _ _ f R1 (.tup (.inl (.inl upd_same)) hz (hx.mono f.same))
    · cases kk
  | tuple xs =>
    cases e2
    obtain ⟨c, zs, rfl, hz, hx, kk⟩ := view_items R rv ev rfl
    rcases kk with ⟨kk, _⟩ | ⟨_, kk⟩
    · cases kk
    · refine ⟨c, zs, rfl, .inr ⟨hK ▸ kk, k P H _ .refl R ?_⟩⟩
      cases v with
      | d y =>
        simp only [viewV, Option.some.injEq] at ev
        subst ev
        exact rv
      | ref n =>
        obtain ⟨es, o, e4, _⟩ := view_ref ev
        cases e4
  | _ => cases e2
theorem ok_list (hK : G.K = X.K) : CallR X (.type "list") (rC G (semB .list)) := by
  refine CallR.imp call_list_of fun x H Q q => ?_
  obtain ⟨O, P, r, h, vs, ds, z, R, rl, e, e2, k⟩ := q
  obtain ⟨d, rfl⟩ := semB_1 e2 (by decide)
  obtain ⟨y, v, rfl, rfl, rv, ev⟩ := arg1 rl e
  unfold semB at e2
  have go : ∀ xs : List D, itemsOf d = some xs → z = .list xs → ∃ p ys, ([y] : List V) = [V.ref p] ∧ (SqL X.K H p ys ∨ SqT X.K H p ys) ∧ ∀ l, H l = none → Q (.ref l) (upd H l (.lst ys)) := fun xs hd hz => by
    subst hz
    obtain ⟨c, zs, rfl, hz, hx, kk⟩ := view_items R rv ev hd
    refine ⟨c, zs, rfl, ?_, fun l hl => ?_⟩
    · rcases kk with ⟨_, kk⟩ | ⟨_, kk⟩
      · exact .inl (hK ▸ kk)
      · exact .inr (hK ▸ kk)
    · obtain ⟨R1, f⟩ := R.newP (o := .lst zs) hl (fun ps z => by cases z)
      exact k _ _ _ f R1 (.lst upd_same hz (hx.mono f.same))
  cases d with
  | list xs => exact go xs rfl (Option.some.inj e2).symm
  | tuple xs => exact go xs rfl (Option.some.inj e2).symm
  | _ => cases e2
theorem ok_all (g : Good G X W) : CallR X (.builtin "all") (rC G (semB .all)) := by
  refine CallR.imp (cr_all g.calm) fun x H Q q => ?_
  obtain ⟨O, P, r, h, vs, ds, z, R, rl, e, e2, k⟩ := q
  obtain ⟨d, rfl⟩ := semB_1 e2 (by decide)
  obtain ⟨y, v, rfl, rfl, rv, ev⟩ := arg1 rl e
  unfold semB at e2
  cases d with
  | list xs =>
    dsimp only at e2
    split at e2
    · rename_i bs hb
      cases e2
      obtain ⟨c, zs, rfl, hz, hx, kk⟩ := view_items R rv ev rfl
      rcases kk with ⟨_, kk⟩ | ⟨kk, _⟩
      · have eb := hx.bools hb
        subst eb
        exact ⟨c, bs, rfl, g.hK ▸ kk, k P H _ .refl R (.bl _)⟩
      · cases kk
    · cases e2
  | _ => cases e2
theorem ok_any (g : Good G X W) : CallR X (.builtin "any") (rC G (semB .any)) := by
  refine CallR.imp (cr_any g.calm) fun x H Q q => ?_
  obtain ⟨O, P, r, h, vs, ds, z, R, rl, e, e2, k⟩ := q
  obtain ⟨d, rfl⟩ := semB_1 e2 (by decide)
  obtain ⟨y, v, rfl, rfl, rv, ev⟩ := arg1 rl e
  unfold semB at e2
  cases d with
  | list xs =>
    dsimp only at e2
    split at e2
    · rename_i bs hb
      cases e2
      obtain ⟨c, zs, rfl, hz, hx, kk⟩ := view_items R rv ev rfl
      rcases kk with ⟨_, kk⟩ | ⟨kk, _⟩
      · have eb := hx.bools hb
        subst eb
        exact ⟨c, bs, rfl, g.hK ▸ kk, k P H _ .refl R (.bl _)⟩
      · cases kk
    · cases e2
  | _ => cases e2
theorem ok_sum (g : Good G X W) : CallR X (.builtin "sum") (rC G (semB .sum)) := by
  refine CallR.imp (cr_sum g.calm) fun x H Q q => ?_
  obtain ⟨O, P, r, h, vs, ds, z, R, rl, e, e2, k⟩ := q
  obtain ⟨d, rfl⟩ := semB_1 e2 (by decide)
  obtain ⟨y, v, rfl, rfl, rv, ev⟩ := arg1 rl e
  unfold semB at e2
  cases d with
  | list xs =>
    dsimp only at e2
    split at e2
    · rename_i bs hb
      cases e2
      obtain ⟨c, zs, rfl, hz, hx, kk⟩ := view_items R rv ev rfl
      rcases kk with ⟨_, kk⟩ | ⟨kk, _⟩
      · have eb := (hx.ints hb).1
        subst eb
        exact ⟨c, bs, rfl, g.hK ▸ kk, k P H _ .refl R (.int _)⟩
      · cases kk
    · cases e2
  | _ => cases e2
theorem ok_min (g : Good G X W) : CallR X (.builtin "min") (rC G (semB .min)) := by
  refine CallR.imp (call_min2 g.calm) fun x H Q q => ?_
  obtain ⟨O, P, r, h, vs, ds, z, R, rl, e, e2, k⟩ := q
  unfold semB at e2
  split at e2 <;> simp only [reduceCtorEq] at * <;> first | (cases e2; done) | skip
  rename_i i j _
  cases e2
  obtain ⟨x, y, v, u, rfl, rfl, rv, ev, ru, eu⟩ := arg2 rl e
  exact ⟨i, j, by rw [view_int rv ev, view_int ru eu], k P H _ .refl R (.int _)⟩
theorem ok_max (g : Good G X W) : CallR X (.builtin "max") (rC G (semB .max)) := by
  refine CallR.imp (call_max2 g.calm) fun x H Q q => ?_
  obtain ⟨O, P, r, h, vs, ds, z, R, rl, e, e2, k⟩ := q
  unfold semB at e2
  split at e2 <;> simp only [reduceCtorEq] at * <;> first | (cases e2; done) | skip
  rename_i i j _
  cases e2
  obtain ⟨x, y, v, u, rfl, rfl, rv, ev, ru, eu⟩ := arg2 rl e
  exact ⟨i, j, by rw [view_int rv ev, view_int ru eu], k P H _ .refl R (.int _)⟩

theorem ok_str : CallR X (.type "str") (rC G (semB .str)) := by
  refine CallR.imp call_str_int fun x H Q q => ?_
  obtain ⟨O, P, r, h, vs, ds, z, R, rl, e, e2, k⟩ := q
  obtain ⟨d, rfl⟩ := semB_1 e2 (by decide)
  obtain ⟨y, v, rfl, rfl, rv, ev⟩ := arg1 rl e
  unfold semB at e2
  cases d with
  | int i =>
    dsimp only at e2
    split at e2
    · rename_i hi
      cases e2
      refine ⟨i, by rw [view_int rv ev], Nat.lt_of_lt_of_le (PySem.Flt.log2_lt_of (by decide) hi.1) (by decide), k P H _ .refl R (.str _ ?_)⟩
      rw [sizeLine_eq]
      exact hi.2
    · cases e2
  | _ => cases e2
/-- what isinstance asks -/
def tyName : D → String
  | .none => "NoneType"
  | .bool _ => "bool"
  | .int _ => "int"
  | .str _ => "str"
  | .list _ => "list"
  | .tuple _ => "tuple"
  | .dict _ => "dict"
theorem tyX_of {P H : Hp} {r : List Addr} {h : Hq} {x : V} {v : Val} {d : D} (R : RelH G O P H r h) (rv : RepV G P r x v) (ev : viewV h v = some d) : TyX G.K H x (.type (tyName d)) := by
  cases v with
  | ref n =>
    obtain ⟨a, rfl, ha⟩ := rv
    obtain ⟨ds, o, rfl, hn, ho⟩ := view_ref ev
    obtain ⟨xs, h1, _, _⟩ := (R.obj n a _ ha hn).sq ho
    rcases h1 with (h1 | ⟨o', h1⟩) | ⟨o', _, _, h1, h2, _⟩
    · exact .base (.lst h1)
    · exact .base (.frz h1)
    · exact .kList h1 h2
  | d y =>
    simp only [viewV, Option.some.injEq] at ev
    subst ev
    cases rv with
    | non => exact .base .non
    | bl b => exact .base (.bl b)
    | int i => exact .base (.int i)
    | str x => exact .base (.str x)
    | lst a b c => exact .base (.lst (R.sub _ _ a))
    | tup a b c =>
      rcases a with (a | ⟨o, a⟩) | ⟨o, _, _, h1, h2, _⟩
      · exact .base (.tup (R.sub _ _ a))
      · exact .fTuple (R.sub _ _ a)
      · exact .kTuple h1 h2
def biTy : BI → Option String
  | .isInt => some "int"
  | .isBool => some "bool"
  | .isTup => some "tuple"
  | .isStr => some "str"
  | _ => none
theorem kit_all : ∀ f T, biTy f = some T → ∀ d : D, (∀ kvs, d ≠ .dict kvs) → ∃ b, semB f [d] = some (.bool b) ∧ kitB (tyName d) T = some b := by
  intro f T e d nd
  cases f <;> simp only [biTy, Option.some.injEq, reduceCtorEq] at e <;> subst e <;> cases d <;> first | exact absurd rfl (nd _) | exact ⟨_, rfl, by simp only [tyName]; decide +kernel⟩
theorem plain_nd {d : D} (h : d.plain = true) : ∀ kvs, d ≠ .dict kvs := fun kvs e => by
  subst e
  simp [PyData.plain] at h
theorem ok_isinst {f : BI} {T : String} {a : Expr} {ea : E} {p p2 : Pos} {F : CallS} (g : Good G X W) (hf : biTy f = some T) (hg : Gl X "isinstance") (hm : X.mg "isinstance" = none) (hgT : Gl X T) (hmT : X.mg T = none) (hvT : bootBuiltins T = some (.type T)) (hnT : (Str.ofString T) ≠ "__name__") (hdT : ((Str.ofString T) == ("__debug__" : Str)) = false)
    (ha : PE X a (RE G (evE F ea) W)) (hs : starEach (a :: [.Name T p2]) X.env = (false, eval a X.env) :: starEach [.Name T p2] X.env) : PE X (.Call (.Name "isinstance" p) [a, .Name T p2] [] pos) (RE G (evE F (.bi f [ea])) W) := by
  refine PE.monoR (pe_callB call_isi hg hm (by decide +kernel) (pa_cons ha (pa_cons (pe_bltn (v := .ty T) hgT hmT hvT rfl hnT hdT) pa_nil) hs) (by decide +kernel) (by decide +kernel) hs) fun σ H Q q => ?_
  obtain ⟨O, P, r, env, h, z, R, re, q, pv⟩ := q
  simp only [evE, evEs] at q
  unfold consA at q
  dsimp only at q
  show RE G (evE F ea) W σ H fun x H1 => _
  refine ⟨O, P, r, env, h, ?_⟩
  cases hx : evE F ea env h with
  | none => rw [hx] at q; simp [bndA] at q
  | some w =>
    obtain ⟨w, h1⟩ := w
    rw [hx] at q
    cases w with
    | exc c p =>
      simp only [bndA] at q
      cases q
      exact ⟨_, R, re, rfl, pv⟩
    | val v =>
      refine ⟨_, R, re, rfl, fun P1 r1 H1 x f1 R1 rv => ?_⟩
      simp only [bndA] at q
      split at q
      · rename_i ds e1
        simp only [viewL] at e1
        split at e1
        · rename_i d e2
          cases e1
          obtain ⟨b, e3, e4⟩ := kit_all f T hf d (plain_nd (view_plain R1 rv e2))
          rw [e3] at q
          exact ⟨x, .ty T, .type (tyName d), .type T, b, rfl, .ty T, g.hK ▸ tyX_of R1 rv e2, kit_ty e4, fin pv q f1 R1 (.bl b)⟩
        · cases e1
      · cases q
/-- a range as data -/
theorem rng_rep {K : PySem.W.Frag} {P : Hp} (a b : Int) : RpAll K P (rgV a b) (rangeD a b) := by
  unfold rgV rangeD
  generalize List.range (b - a).toNat = l
  induction l with
  | nil => exact .nil
  | cons x l ih => exact .cons (.int _) ih
theorem rangeOk_ok {a b : Int} (h : rangeOk a b = true) : RgOk a b := by
  unfold rangeOk at h
  simp only [Bool.and_eq_true, decide_eq_true_eq] at h
  obtain ⟨⟨⟨⟨h1, h2⟩, h3⟩, h4⟩, h5⟩ := h
  exact ⟨by omega, by omega, by omega, by omega, by unfold line at h5; omega⟩
/-- range(..): its ends -/
def RG (G : GI) (ev : Env → Hq → AR) (W : XK) : L2.St → Hp → (Int → Int → Hp → Prop) → Prop := fun σ H Q => RL G ev W σ H fun xs H1 => match xs with
  | [.int b] => Q 0 b H1
  | [.int a, .int b] => Q a b H1
  | _ => False
theorem PRg.monoR {e : Expr} {t t' : L2.St → Hp → (Int → Int → Hp → Prop) → Prop} (p : PRg X e t) (m : ∀ σ H Q, t' σ H Q → t σ H Q) : PRg X e t' := fun pins s σ H Q I q => p pins s σ H Q I (m _ _ _ q)
theorem ok_rg1 {a : Expr} {ea : E} {p : Pos} {F : CallS} (hg : Gl X "range") (hm : X.mg "range" = none) (ha : PE X a (RE G (evE F ea) W)) (hs : starEach [a] X.env = (false, eval a X.env) :: starEach [] X.env) : PRg X (.Call (.Name "range" p) [a] [] pos) (RG G (evEs F [ea]) W) := by
  refine PRg.monoR (prg_1 hg hm ha hs) fun σ H Q q => ?_
  obtain ⟨O, P, r, env, h, z, R, re, q, pv⟩ := q
  simp only [evEs] at q
  unfold consA at q
  dsimp only at q
  refine ⟨O, P, r, env, h, ?_⟩
  cases hx : evE F ea env h with
  | none => rw [hx] at q; cases q
  | some w =>
    obtain ⟨w, h1⟩ := w
    rw [hx] at q
    cases w with
    | exc c p =>
      cases q
      exact ⟨_, R, re, rfl, pv⟩
    | val v =>
      cases q
      refine ⟨_, R, re, rfl, fun P1 r1 H1 x f1 R1 rv => ?_⟩
      have q2 := pv P1 r1 H1 [x] f1 R1 (.cons rv .nil)
      cases x with
      | int i => exact ⟨i, rfl, q2⟩
      | _ => exact q2.elim
theorem ok_rg2 {a b : Expr} {ea eb : E} {p : Pos} {F : CallS} (hg : Gl X "range") (hm : X.mg "range" = none) (ha : PE X a (RE G (evE F ea) W)) (hb : PE X b (RE G (evE F eb) W)) (hs : starEach [a, b] X.env = (false, eval a X.env) :: starEach [b] X.env) (hs2 : starEach [b] X.env = (false, eval b X.env) :: starEach [] X.env) : PRg X (.Call (.Name "range" p) [a, b] [] pos) (RG G (evEs F [ea, eb]) W) := by
  refine PRg.monoR (prg_2 hg hm ha hb hs hs2 (by rw [hs2]; rfl)) fun σ H Q q => ?_
  obtain ⟨O, P, r, env, h, z, R, re, q, pv⟩ := q
  simp only [evEs] at q
  unfold consA at q
  dsimp only at q
  refine ⟨O, P, r, env, h, ?_⟩
  cases hx : evE F ea env h with
  | none => rw [hx] at q; cases q
  | some w =>
    obtain ⟨w, h1⟩ := w
    rw [hx] at q
    cases w with
    | exc c p =>
      cases q
      exact ⟨_, R, re, rfl, pv⟩
    | val v =>
      dsimp only at q
      refine ⟨_, R, re, rfl, fun P1 r1 H1 x f1 R1 rv => ?_⟩
      refine ⟨O, P1, r1, env, h1, ?_⟩
      cases hy : evE F eb env h1 with
      | none => rw [hy] at q; cases q
      | some w =>
        obtain ⟨w, h2⟩ := w
        rw [hy] at q
        cases w with
        | exc c p =>
          cases q
          exact ⟨_, R1, re.fut f1, rfl, fun P2 r2 H2 d x f2 => pv P2 r2 H2 d x (f1.trans f2)⟩
        | val u =>
          cases q
          refine ⟨_, R1, re.fut f1, rfl, fun P2 r2 H2 y f2 R2 ru => ?_⟩
          have q2 := pv P2 r2 H2 [x, y] (f1.trans f2) R2 (.cons (rv.fut f2) (.cons ru .nil))
          cases x with
          | int i =>
            cases y with
            | int j => exact ⟨i, j, rfl, rfl, q2⟩
            | _ => exact q2.elim
          | _ => exact q2.elim
theorem pureL_views {h : Hq} : ∀ {vs : List Val} {ds : List D}, pureL vs = some ds → viewL h vs = some ds
  | [], ds, e => by
    simp only [pureL, Option.some.injEq] at e
    subst e
    rfl
  | .d x :: vs, ds, e => by
    simp only [pureL] at e
    split at e
    · rename_i es he
      cases e
      simp only [viewL, viewV, pureL_views he]
    · cases e
  | .ref n :: vs, ds, e => by simp [pureL] at e
/-- what a range makes of its arguments -/
theorem rg_vals {P : Hp} {r : List Addr} {h : Hq} {xs : List V} {vs : List Val} {ds rs : List D} (rl : RepL G P r xs vs) (e : viewL h vs = some ds) (e2 : semI .range ds = some rs) : ∃ a b, RgOk a b ∧ rs = rangeD a b ∧ ((xs = [.int b] ∧ a = 0) ∨ xs = [.int a, .int b]) := by
  unfold semI at e2
  split at e2 <;> simp only [reduceCtorEq] at * <;> first | (cases e2; done) | skip
  · split at e2
    · rename_i b _ hok
      cases e2
      obtain ⟨x, v, rfl, rfl, rv, ev⟩ := arg1 rl e
      exact ⟨0, b, rangeOk_ok hok, rfl, .inl ⟨by rw [view_int rv ev], rfl⟩⟩
    · cases e2
  · split at e2
    · rename_i a b _ hok
      cases e2
      obtain ⟨x, y, v, u, rfl, rfl, rv, ev, ru, eu⟩ := arg2 rl e
      exact ⟨a, b, rangeOk_ok hok, rfl, .inr (by rw [view_int rv ev, view_int ru eu])⟩
    · cases e2
theorem ok_listR {e : Expr} {es : List E} {p : Pos} {F : CallS} (g : Good G X W) (hg : Gl X "list") (hm : X.mg "list" = none) (he : PRg X e (RG G (evEs F es) W)) (hs : starEach [e] X.env = (false, eval e X.env) :: starEach [] X.env) : PE X (.Call (.Name "list" p) [e] [] pos) (RE G (evE F (.nlistR es)) W) := by
  refine PE.monoR (pe_listRg g.calm hg hm he hs) fun σ H Q q => ?_
  obtain ⟨O, P, r, env, h, z, R, re, q, pv⟩ := q
  simp only [evE] at q
  refine goA R re q pv fun P1 r1 H1 x v h1 f R1 rl e => ?_
  split at e
  · rename_i ds e1
    split at e
    · rename_i rs e2
      obtain ⟨a, b, ok, rfl, hx⟩ := rg_vals rl (pureL_views (h := h1) e1) e2
      have key : RgOk a b ∧ ∀ q, H1 q = none → Q (.ref q) (upd H1 q (.lst (rgV a b))) := by
        refine ⟨ok, fun q hq => ?_⟩
        obtain ⟨R2, f2⟩ := R1.newL hq (by rw [rgV_length, sizeLine_eq]; have := ok.2.2.2.2; omega) (rng_rep a b)
        exact fin pv e (f.trans f2) R2 ⟨q, rfl, new_at R1.len⟩
      rcases hx with ⟨rfl, rfl⟩ | rfl
      · exact key
      · exact key
    · cases e
  · cases e
theorem ok_listRD {e : Expr} {es : List E} {p : Pos} {F : CallS} (g : Good G X W) (hg : Gl X "list") (hm : X.mg "list" = none) (he : PRg X e (RG G (evEs F es) W)) (hs : starEach [e] X.env = (false, eval e X.env) :: starEach [] X.env) : PE X (.Call (.Name "list" p) [e] [] pos) (RE G (evE F (.bi .listR es)) W) := by
  refine PE.monoR (pe_listRg g.calm hg hm he hs) fun σ H Q q => ?_
  obtain ⟨O, P, r, env, h, z, R, re, q, pv⟩ := q
  simp only [evE] at q
  refine goA R re q pv fun P1 r1 H1 x v h1 f R1 rl e => ?_
  split at e
  · rename_i ds e1
    split at e
    · rename_i w e2
      have e3 : ∃ rs, semI .range ds = some rs ∧ w = .list rs := by
        unfold semB at e2
        split at e2 <;> simp only [reduceCtorEq] at * <;> first | (cases e2; done) | skip
        all_goals
          split at e2
          · rename_i hok
            cases e2
            exact ⟨_, by simp only [semI]; rw [if_pos hok], rfl⟩
          · cases e2
      obtain ⟨rs, e3, rfl⟩ := e3
      obtain ⟨a, b, ok, rfl, hx⟩ := rg_vals rl e1 e3
      have hl : (rgV a b).length ≤ sizeLine := by rw [rgV_length, sizeLine_eq]; have := ok.2.2.2.2; omega
      have key : RgOk a b ∧ ∀ q, H1 q = none → Q (.ref q) (upd H1 q (.lst (rgV a b))) := by
        refine ⟨ok, fun q hq => ?_⟩
        obtain ⟨R2, f2⟩ := R1.newP (o := .lst (rgV a b)) hq (fun ps z => by cases z)
        exact fin pv e (f.trans f2) R2 (.lst upd_same hl (rng_rep a b))
      rcases hx with ⟨rfl, rfl⟩ | rfl
      · exact key
      · exact key
    · cases e
  · cases e
theorem ok_tupRD {e : Expr} {es : List E} {p : Pos} {F : CallS} (g : Good G X W) (hg : Gl X "tuple") (hm : X.mg "tuple" = none) (he : PRg X e (RG G (evEs F es) W)) (hs : starEach [e] X.env = (false, eval e X.env) :: starEach [] X.env) : PE X (.Call (.Name "tuple" p) [e] [] pos) (RE G (evE F (.bi .tupleR es)) W) := by
  refine PE.monoR (pe_tupRg g.calm hg hm he hs) fun σ H Q q => ?_
  obtain ⟨O, P, r, env, h, z, R, re, q, pv⟩ := q
  simp only [evE] at q
  refine goA R re q pv fun P1 r1 H1 x v h1 f R1 rl e => ?_
  split at e
  · rename_i ds e1
    split at e
    · rename_i w e2
      have e3 : ∃ rs, semI .range ds = some rs ∧ w = .tuple rs := by
        unfold semB at e2
        split at e2 <;> simp only [reduceCtorEq] at * <;> first | (cases e2; done) | skip
        all_goals
          split at e2
          · rename_i hok
            cases e2
            exact ⟨_, by simp only [semI]; rw [if_pos hok], rfl⟩
          · cases e2
      obtain ⟨rs, e3, rfl⟩ := e3
      obtain ⟨a, b, ok, rfl, hx⟩ := rg_vals rl e1 e3
      have hl : (rgV a b).length ≤ sizeLine := by rw [rgV_length, sizeLine_eq]; have := ok.2.2.2.2; omega
      have key : RgOk a b ∧ ∀ q, H1 q = none → Q (.ref q) (upd H1 q (.tup (rgV a b))) := by
        refine ⟨ok, fun q hq => ?_⟩
        obtain ⟨R2, f2⟩ := R1.newP (o := .tup (rgV a b)) hq (fun ps z => by cases z)
        exact fin pv e (f.trans f2) R2 (.tup (.inl (.inl upd_same)) hl (rng_rep a b))
      rcases hx with ⟨rfl, rfl⟩ | rfl
      · exact key
      · exact key
    · cases e
  · cases e
end
end Ev
end

section
set_option Elab.async false
set_option linter.all false
set_option maxRecDepth 100000
set_option autoImplicit false
/-! what is walked -/
namespace Ev
open PySem PySem.Spec PyProof.Rows L2

set_option maxHeartbeats 1000000 in
/-- enumerate(t) of anything that begins by one new iterator -/
theorem enumNew1 {v : Value} {o : Obj} {Hh : Heap → Prop} (B : Begins v o Hh) :
    Meets (Builtin.«enumerate.__new__» ⟨[.type "enumerate", v], []⟩) (fun _ Rr st => Hh st.heap ∧
      Rr (.ok (.ret (.ref (st.heap.push o).objs.size))) { st with heap := (st.heap.push o).push { cls := .type "enumerate", data := .fields #[.none, .bool false, .ref st.heap.objs.size, rawInt 0, .none, .none] } }) :=
  .of_wp fun pr wo Ar Rr st hst => by
    obtain ⟨hp, gn, dr, tk, os⟩ := st
    obtain ⟨hB, hR⟩ := hst
    have subE := sub_enumerate
    have q1 : ∀ {A' : Around} {E' : Value → Shared → Prop} {Q' : Value → Shared → Prop}, Q' (.ref hp.objs.size) ⟨hp.push o, gn, dr, tk, os⟩ → wpAny (model pr wo) A' (pyIter v) Q' E' ⟨hp, gn, dr, tk, os⟩ :=
      fun z => B.iter pr wo _ _ ⟨hp, gn, dr, tk, os⟩ _ hB z
    wp_walk using q1
    refine wpAny_stack_any fun stk => wpAny_pure ?_
    split
    · rename_i c _ _ _ _ _
      cases (c == Value.type "enumerate")
      · wp_walk using q1
        exact ⟨_, rfl, hR⟩
      · wp_walk using q1
        exact ⟨_, rfl, hR⟩
    · wp_walk using q1
      exact ⟨_, rfl, hR⟩
theorem enumCall1 {pr : Program} {wo : World} {Ar : Around} {Er : Value → Shared → Prop} {st : Shared} {v : Value} {o : Obj} {Hh : Heap → Prop} {Qr : Value → Shared → Prop} (B : Begins v o Hh) (hB : Hh st.heap)
    (k : ∀ h', IsEnum h' (st.heap.objs.size + 1) st.heap.objs.size 0 .none → h'.get? st.heap.objs.size = some o → (∀ b u, st.heap.get? b = some u → h'.get? b = some u) → Qr (.ref (st.heap.objs.size + 1)) { st with heap := h' }) :
    wpAny (model pr wo) Ar (call (.type "enumerate") [v]) Qr Er st := by
  refine callType_new F.called_enumerate (by decide) (F.typeCall_enumerate_1 _) (F.newCall_enumerate_1 _) (fun ob => F.args_object_init_2 ob _) F.entry_enumerate_new (enumNew1 B) ⟨hB, ?_⟩
  have sz : (st.heap.push o).objs.size = st.heap.objs.size + 1 := Heap.size_push ..
  show _ ∧ _
  rw [sz]
  have isE : IsEnum ((st.heap.push o).push { cls := .type "enumerate", data := .fields #[.none, .bool false, .ref st.heap.objs.size, rawInt 0, .none, .none] }) (st.heap.objs.size + 1) st.heap.objs.size 0 .none := by
    have z := Heap.get?_push_size (st.heap.push o) (o := { cls := .type "enumerate", data := .fields #[.none, .bool false, .ref st.heap.objs.size, rawInt 0, .none, .none] }) rfl
    rw [sz] at z
    exact z
  exact ⟨⟨_, isE, rfl⟩, k _ isE (Heap.get?_push_of_some _ (Heap.get?_push_size _ B.free)) fun b u x => Heap.get?_push_of_some _ (Heap.get?_push_of_some _ x)⟩

/-- the tuple at a, each item in a new pair -/
def Iet (K : PySem.W.Frag) (a : Addr) : It :=
  ⟨fun i H => ∃ (xs : List V) (x : V), SqT K H a xs ∧ xs[i]? = some x, fun i H v H' => ∃ T x, v = .ref T ∧ H T = none ∧ H' = upd H T (.tup [.int (i : Nat), x]) ∧ ∀ xs, SqT K H a xs → xs[i]? = some x, fun i H => ∃ xs : List V, SqT K H a xs ∧ xs.length = i⟩
theorem turn_Iet {P : Program} {w : World} {K : PySem.W.Frag} {elts : List Expr} {kk : Nat} {tpos : Pos} {a e it : Addr} {us : List Value} (hae : a ≠ e) (hai : a ≠ it) :
    Turn P w K (.Tuple elts kk tpos) (Iet K a) [e, it] e (fun i h => (∃ old, IsEnum h e it ((i : Nat) : Int) old) ∧ h.IsTupleIter it a i ∧ e ≠ it) where
  mem := by simp
  obj := fun i h st b hb => by
    obtain ⟨⟨old, he⟩, ⟨o, ho, hc, hd⟩, _⟩ := st
    have z : b = e ∨ b = it := by simpa using hb
    rcases z with rfl | rfl
    · exact ⟨_, he, fun v q => nomatch q⟩
    · exact ⟨o, ho, fun v q => by rw [hd] at q; cases q⟩
  keep := fun i h h' st k => by
    obtain ⟨⟨old, he⟩, hi, hne⟩ := st
    exact ⟨⟨old, k e (by simp) _ he⟩, hi.at fun o q => k it (by simp) o q, hne⟩
  item := by
    intro X hP hw hK hc i pins s σ H E I hf st hg
    subst hP hw hK
    obtain ⟨⟨old, he⟩, hit, hne⟩ := st
    obtain ⟨xs, x, hq, hx⟩ := hg
    obtain ⟨its, rv, p, hz⟩ := I.tuple hq
    obtain ⟨u, hu, ru⟩ := rv.get hx
    have hel : e < s.heap.objs.size := Heap.lt_size he
    have hil : it < s.heap.objs.size := by obtain ⟨_, q, _⟩ := hit; exact Heap.lt_size q
    have hlt : i < its.toArray.size := by
      have z := (List.getElem?_eq_some_iff.mp hu).1
      simpa using z
    have hd1 : (X.A.in1).handled = none := I.ok.hd hc
    refine wpAny_pyNext_enum_itemC (Draws.tuple (prog := X.prog) (w := X.w) hd1 it a hai its.toArray) he ⟨hit, show s.heap.IsTuple a its.toArray from p⟩ hlt hne (by simp [hae.symm, hne]) fun u' h' tk hPx ho hst hT hsz hk => ?_
    have eu : u' = u := by
      have z : its.toArray[i]? = some u' := hPx
      have z2 : its.toArray[i]? = some u := by simpa using hu
      rw [z2] at z
      exact (Option.some.inj z).symm
    subst eu
    refine ⟨_, rfl, wpAny_letOwnedTupleGo_enum (s := { s with heap := h', toks := tk + 1 }) ho fun h'' he' sb => ?_⟩
    have hT2 : h''.get? s.heap.objs.size = some { cls := .type "tuple", data := .seq #[.int i tk, u'] } := (sb.2 _ (Nat.ne_of_gt hel)).trans hT
    have new : ObjOk X.prog X.w (upd H s.heap.objs.size (.tup [.int (i : Nat), x])) h'' s.heap.objs.size (.tup [.int (i : Nat), x]) :=
      ⟨by show 2 ≤ sizeLine; decide, [.int i tk, u'], .cons ⟨_, rfl⟩ (.cons ru .nil), ⟨_, hT2, rfl, _, rfl⟩⟩
    have nin : ∀ {b : Addr}, b ∉ [e, it] → b ≠ e ∧ b ≠ it := fun {b} hb => ⟨fun z => hb (by simp [z]), fun z => hb (by simp [z])⟩
    have I1 : Inv X pins σ (upd H s.heap.objs.size (.tup [.int (i : Nat), x])) { s with heap := h'', toks := tk + 1 } :=
      I.turnedNew (ch := [e, it]) (fun b ob hb q => (sb.2 b (nin hb).1).trans (hk b ob (nin hb).1 (nin hb).2 q)) hf (Nat.le_refl _) new
    refine ⟨.ref s.heap.objs.size, _, I1, rfl, ⟨_, x, rfl, I.hok.fresh (Nat.le_refl _), rfl, fun ys hy => by rw [I.tuple_inj hy hq]; exact hx⟩, ⟨⟨u', ?_⟩, hst.1.at fun o q => (sb.2 it (Ne.symm hne)).trans q, hne⟩, fun b hb => ?_⟩
    · have e1 : ((i + 1 : Nat) : Int) = (i : Int) + 1 := by omega
      rw [e1]
      exact he'
    · have z : b = e ∨ b = it := by simpa using hb
      have hb' : b < s.heap.objs.size := by rcases z with rfl | rfl <;> assumption
      rw [upd_ne (Nat.ne_of_lt hb')]
      exact (hf b hb).1
  done := by
    intro X hP hw hK hc i pins s σ H E I hf st hg
    subst hP hw hK
    obtain ⟨⟨old, he⟩, hit, hne⟩ := st
    obtain ⟨xs, hq, hx⟩ := hg
    obtain ⟨its, rv, p, hz⟩ := I.tuple hq
    obtain ⟨f0, f1, f2, f3, f4, f5⟩ := hf it (by simp)
    have hl : its.toArray.size = i := by rw [List.size_toArray, ← rv.length, hx]
    have hd1 : (X.A.in1).handled = none := I.ok.hd hc
    refine wpAny_pyNext_enum_endD (Draws.tuple (prog := X.prog) (w := X.w) hd1 it a hai its.toArray) he ?_ fun h' eb => ⟨rfl, I.turned (t' := s.toks) (fun b o hb q => eb b o hb q) f0 f1 f3 f4 f5⟩
    rw [hl]
    exact ⟨hit, show s.heap.IsTuple a its.toArray from p⟩
  self := fun A i s Q E st h => by
    obtain ⟨⟨_, he⟩, _⟩ := st
    exact wpAny_pyIter_enum he h
def iEnumA (K : PySem.W.Frag) (ta : TA) : TI := fun σ H R => ta σ H fun vs H1 => ∃ a xs, vs = [.ref a] ∧ ((SqL K H1 a xs ∧ R (Ite K a) H1) ∨ (SqT K H1 a xs ∧ R (Iet K a) H1))
theorem pi_enumA {X : Cx} {e : Expr} {ta : TA} {p pos tpos : Pos} {elts : List Expr} {kk : Nat} (hg : Gl X "enumerate") (hm : X.mg "enumerate" = none) (ha : PA X [e] ta) (hs : starEach [e] X.env = (false, eval e X.env) :: starEach [] X.env) :
    PI X (.Tuple elts kk tpos) (.Call (.Name "enumerate" p) [e] [] pos) (iEnumA X.K ta) := by
  refine ⟨fun pins s σ H R I h => ?_⟩
  refine Call_ (ld_blt I hg hm boot_enumerate (PyProof.Rows.callWith_type1 (thn (ha.run pos pins s σ H _ I h) fun us s1 ⟨vs, H1, I1, r1, q1⟩ => ?_) hs (by rfl)))
  obtain ⟨a, xs, ex, q1⟩ := q1
  subst ex
  obtain ⟨u, rfl, rfl⟩ : ∃ u, us = [u] ∧ u = Value.ref a := by
    cases r1 with
    | cons r rr => cases rr; exact ⟨_, rfl, r⟩
  have two : ∀ {b : Addr}, b ∈ [s1.heap.objs.size + 1, s1.heap.objs.size] → s1.heap.objs.size ≤ b := fun {b} hb => by
    have z : b = s1.heap.objs.size + 1 ∨ b = s1.heap.objs.size := by simpa using hb
    rcases z with rfl | rfl
    · exact Nat.le_succ _
    · exact Nat.le_refl _
  rcases q1 with ⟨hq, q⟩ | ⟨hq, q⟩
  · obtain ⟨its, rv, p', hz⟩ := I1.list hq
    refine call_enumerate_list p'.isList fun h' he hit hsz hk => wpAny_pyIter_enum he ?_
    exact ⟨s1.heap.objs.size + 1, [s1.heap.objs.size + 1, s1.heap.objs.size], _, _, H1, rfl, I1.kept (t' := s1.toks) hk, turn_enum a (s1.heap.objs.size + 1) s1.heap.objs.size, ⟨⟨.none, he⟩, hit, Nat.succ_ne_self _⟩, fun b hb => I1.fpOk (two hb) (I1.hok.fresh (two hb)), q⟩
  · obtain ⟨its, rv, p', hz⟩ := I1.tuple hq
    have hal : a < s1.heap.objs.size := by obtain ⟨o, ho, _⟩ := id p'; exact Heap.lt_size ho
    refine enumCall1 (begins_tuple a its.toArray) (show s1.heap.IsTuple a its.toArray from p') fun h' he hit hk => wpAny_pyIter_enum he ?_
    refine ⟨s1.heap.objs.size + 1, [s1.heap.objs.size + 1, s1.heap.objs.size], _, _, H1, rfl, I1.kept (t' := s1.toks) hk, turn_Iet (us := its) (a := a) (e := s1.heap.objs.size + 1) (it := s1.heap.objs.size) (Nat.ne_of_lt (Nat.lt_succ_of_lt hal)) (Nat.ne_of_lt hal), ⟨⟨.none, he⟩, ⟨_, hit, rfl, rfl⟩, Nat.succ_ne_self _⟩, fun b hb => I1.fpOk (two hb) (I1.hok.fresh (two hb)), q⟩
end Ev
end

section
set_option Elab.async false
set_option linter.all false
set_option maxRecDepth 100000
set_option autoImplicit false
/-! iterators' readings, targets, comprehensions -/
namespace Ev
open PySem PySem.Spec PyProof.Rows L2

/-- what an iterator gives, turn by turn -/
structure ItOk (G : GI) (P0 : Hp) (r0 : List Addr) (J : It) (k : IK) (src : Option Nat) (items : List D) : Prop where
  size : items.length ≤ sizeLine
  stop : ∀ (O P H : Hp) (r : List Addr) (h : Hq), Fut P0 r0 P r → RelH G O P H r h → endAt src h items.length = true → J.stop items.length H
  go : ∀ (O P H : Hp) (r : List Addr) (h : Hq) (i : Nat) (x y : D), Fut P0 r0 P r → RelH G O P H r h → items[i]? = some x → itemAt k src h items.length i x = some y →
    J.go i H ∧ ∀ v H', J.yld i H v H' → ∃ P', RelH G O P' H' r h ∧ Fut P r P' r ∧ Rp G.K P' v y
def PVi (G : GI) (O P : Hp) (r : List Addr) (k : IK) (Rr : It → Hp → Prop) (W : XK) : RA × Hq → Prop
  | (.vals vs, h1) => ∃ src items, srcOf k vs h1 = some (src, items) ∧ ∀ (P1 : Hp) (r1 : List Addr) (H1 : Hp), Fut P r P1 r1 → RelH G O P1 H1 r1 h1 → ∀ J, ItOk G P1 r1 J k src items → Rr J H1
  | (.exc c p, h1) => ∀ (P1 : Hp) (r1 : List Addr) (H1 : Hp) (d : Addr) (x : V), Fut P r P1 r1 → RelH G O P1 H1 r1 h1 → H1 d = some (.xd [(G.fld c, x)]) → Rp G.K P1 x p → W (.ref (G.exc c)) (some d) H1
/-- an iterable's reading -/
def RI (G : GI) (k : IK) (ev : Env → Hq → AR) (W : XK) : TI := fun σ H Rr => ∃ (O P : Hp) (r : List Addr) (env : Env) (h : Hq) (z : RA × Hq), RelH G O P H r h ∧ RelE G P r σ env ∧ ev env h = some z ∧ PVi G O P r k Rr W z
theorem PI.monoR {X : Cx} {tg e : Expr} {t t' : TI} (p : PI X tg e t) (m : ∀ σ H Q, t' σ H Q → t σ H Q) : PI X tg e t' := ⟨fun pins s σ H Q I q => p.run pins s σ H Q I (m _ _ _ q)⟩
section
variable {G : GI} {X : Cx} {W : XK} {pos : Pos} {O P0 : Hp} {r0 : List Addr}
theorem live_view {h : Hq} {n l i : Nat} {y : D} (e : liveAt h n l i = some y) : ∃ ys, viewV h (.ref n) = some (.list ys) ∧ ys.length = l ∧ ys[i]? = some y := by
  unfold liveAt at e
  split at e
  · rename_i ys hv
    split at e
    · exact ⟨ys, hv, by assumption, e⟩
    · cases e
  · cases e
/-- the items as they stand, a value that stands through -/
theorem itemsL {x : V} {v : Val} {d : D} {h0 : Hq} {src : Option Nat} {items : List D} (rv : RepV G P0 r0 x v) (ev : viewV h0 v = some d) (ei : itemsOf d = some items) (hs : (src = none ∧ v = .d d) ∨ ∃ n, src = some n ∧ v = .ref n) :
    (∀ (O P H : Hp) (r : List Addr) (h : Hq), Fut P0 r0 P r → RelH G O P H r h → endAt src h items.length = true → ∃ a xs, x = .ref a ∧ xs.length = items.length ∧ ((∃ ds, d = .list ds) ∧ SqL G.K H a xs ∨ (∃ ds, d = .tuple ds) ∧ SqT G.K H a xs)) ∧
    (∀ (O P H : Hp) (r : List Addr) (h : Hq) (i : Nat) (z y : D), Fut P0 r0 P r → RelH G O P H r h → items[i]? = some z → itemAt .seq src h items.length i z = some y →
      ∃ a xs w, x = .ref a ∧ xs.length = items.length ∧ xs[i]? = some w ∧ Rp G.K P w y ∧ ((∃ ds, d = .list ds) ∧ SqL G.K H a xs ∨ (∃ ds, d = .tuple ds) ∧ SqT G.K H a xs)) := by
  rcases hs with ⟨rfl, rfl⟩ | ⟨n, rfl, rfl⟩
  · refine ⟨fun O P H r h f R _ => ?_, fun O P H r h i z y f R e1 e2 => ?_⟩
    · obtain ⟨a, xs, rfl, hl, hx, k⟩ := view_items R (rv.fut f) (show viewV h (.d d) = some d from rfl) ei
      refine ⟨a, xs, rfl, hx.length, ?_⟩
      rcases k with ⟨rfl, k⟩ | ⟨rfl, k⟩
      · exact .inl ⟨⟨_, rfl⟩, k⟩
      · exact .inr ⟨⟨_, rfl⟩, k⟩
    · obtain ⟨a, xs, rfl, hl, hx, k⟩ := view_items R (rv.fut f) (show viewV h (.d d) = some d from rfl) ei
      simp only [itemAt, Option.some.injEq] at e2
      subst e2
      obtain ⟨w, h1, h2⟩ := hx.get e1
      refine ⟨a, xs, w, rfl, hx.length, h1, h2, ?_⟩
      rcases k with ⟨rfl, k⟩ | ⟨rfl, k⟩
      · exact .inl ⟨⟨_, rfl⟩, k⟩
      · exact .inr ⟨⟨_, rfl⟩, k⟩
  · obtain ⟨ds0, o, rfl, _, _⟩ := view_ref ev
    refine ⟨fun O P H r h f R e => ?_, fun O P H r h i z y f R e1 e2 => ?_⟩
    · simp only [endAt] at e
      split at e
      · rename_i ys hv
        obtain ⟨a, xs, rfl, hl, hx, k⟩ := view_items R (rv.fut f) hv rfl
        rcases k with ⟨_, k⟩ | ⟨k, _⟩
        · refine ⟨a, xs, rfl, ?_, .inl ⟨⟨_, rfl⟩, k⟩⟩
          rw [hx.length]
          exact eq_of_beq e
        · cases k
      · cases e
    · simp only [itemAt] at e2
      split at e2
      · rename_i y' hv
        obtain ⟨ys, h1, h2, h3⟩ := live_view hv
        obtain ⟨a, xs, rfl, hl, hx, k⟩ := view_items R (rv.fut f) h1 rfl
        cases e2
        obtain ⟨w, h4, h5⟩ := hx.get h3
        rcases k with ⟨_, k⟩ | ⟨k, _⟩
        · exact ⟨a, xs, w, rfl, by rw [hx.length, h2], h4, h5, .inl ⟨⟨_, rfl⟩, k⟩⟩
        · cases k
      · cases e2

theorem src_cases {k : IK} {vs : List Val} {h : Hq} {src : Option Nat} {items : List D} (e : srcOf k vs h = some (src, items)) : (∃ n d, vs = [.ref n] ∧ src = some n ∧ viewV h (.ref n) = some d ∧ (k = .seq ∨ k = .enum) ∧ semI k [d] = some items) ∨ (∃ ds, pureL vs = some ds ∧ src = none ∧ semI k ds = some items) := by
  unfold srcOf at e
  split at e
  · rename_i n
    split at e
    · rename_i d hd
      cases k with
      | seq =>
        dsimp only at e
        split at e
        · cases e
          exact .inl ⟨n, d, rfl, rfl, hd, .inl rfl, by assumption⟩
        · cases e
      | enum =>
        dsimp only at e
        split at e
        · cases e
          exact .inl ⟨n, d, rfl, rfl, hd, .inr rfl, by assumption⟩
        · cases e
      | _ => cases e
    · cases e
  · split at e
    · rename_i ds hds
      split at e
      · cases e
        exact .inr ⟨ds, by assumption, rfl, by assumption⟩
      · cases e
    · cases e
theorem pure1 {v : Val} {ds : List D} (e : pureL [v] = some ds) : ∃ d, v = .d d ∧ ds = [d] := by
  cases v with
  | ref n => simp [pureL] at e
  | d x =>
    simp only [pureL, Option.some.injEq] at e
    exact ⟨x, rfl, e.symm⟩
theorem rep_size {x : V} {v : Val} {d : D} {h : Hq} {items : List D} {H : Hp} (R : RelH G O P0 H r0 h) (rv : RepV G P0 r0 x v) (ev : viewV h v = some d) (ei : itemsOf d = some items) : items.length ≤ sizeLine := by
  obtain ⟨a, xs, rfl, hl, hx, _⟩ := view_items R rv ev ei
  rw [← hx.length]
  exact hl
/-- one thing walked: a list or a tuple, data or on the heap -/
theorem one_src {k : IK} {v : Val} {h : Hq} {src : Option Nat} {items : List D} (hk : k = .seq ∨ k = .enum) (e : srcOf k [v] h = some (src, items)) : ∃ d, viewV h v = some d ∧ semI k [d] = some items ∧ ((src = none ∧ v = .d d) ∨ ∃ n, src = some n ∧ v = .ref n) := by
  rcases src_cases e with ⟨n, d, e1, rfl, e3, _, e4⟩ | ⟨ds, e1, rfl, e3⟩
  · cases e1
    exact ⟨d, e3, e4, .inr ⟨n, rfl, rfl⟩⟩
  · obtain ⟨d, rfl, rfl⟩ := pure1 e1
    exact ⟨d, rfl, e3, .inl ⟨rfl, rfl⟩⟩
def ItS (K : PySem.W.Frag) (a : Addr) (J : It) (d : D) : Prop := ((∃ ds, d = .list ds) ∧ J = Itl K a) ∨ ((∃ ds, d = .tuple ds) ∧ J = Itt K a)
theorem it_seq {a : Addr} {v : Val} {d : D} {h0 : Hq} {src : Option Nat} {items : List D} {H : Hp} {J : It} (R0 : RelH G O P0 H r0 h0) (rv : RepV G P0 r0 (.ref a) v) (ev : viewV h0 v = some d) (ei : itemsOf d = some items) (hs : (src = none ∧ v = .d d) ∨ ∃ n, src = some n ∧ v = .ref n) (hJ : ItS G.K a J d) : ItOk G P0 r0 J .seq src items := by
  obtain ⟨h1, h2⟩ := itemsL rv ev ei hs
  refine ⟨rep_size R0 rv ev ei, fun O P H r h f R e => ?_, fun O P H r h i z y f R e1 e2 => ?_⟩
  · obtain ⟨b, xs, eb, hl, k⟩ := h1 O P H r h f R e
    cases eb
    rcases hJ with ⟨⟨ds, rfl⟩, rfl⟩ | ⟨⟨ds, rfl⟩, rfl⟩
    · rcases k with ⟨_, k⟩ | ⟨⟨_, k⟩, _⟩
      · exact ⟨xs, k, Nat.le_of_eq hl⟩
      · cases k
    · rcases k with ⟨⟨_, k⟩, _⟩ | ⟨_, k⟩
      · cases k
      · exact ⟨xs, k, Nat.le_of_eq hl⟩
  · obtain ⟨b, xs, w, eb, hl, hw, rw', k⟩ := h2 O P H r h i z y f R e1 e2
    cases eb
    rcases hJ with ⟨⟨ds, rfl⟩, rfl⟩ | ⟨⟨ds, rfl⟩, rfl⟩
    · rcases k with ⟨_, k⟩ | ⟨⟨_, k⟩, _⟩
      · refine ⟨⟨xs, w, k, hw⟩, fun v H' ⟨e3, e4⟩ => ?_⟩
        subst e3
        have e5 := e4 xs k
        rw [hw] at e5
        cases e5
        exact ⟨P, R, .refl, rw'⟩
      · cases k
    · rcases k with ⟨⟨_, k⟩, _⟩ | ⟨_, k⟩
      · cases k
      · refine ⟨⟨xs, w, k, hw⟩, fun v H' ⟨e3, e4⟩ => ?_⟩
        subst e3
        have e5 := e4 xs k
        rw [hw] at e5
        cases e5
        exact ⟨P, R, .refl, rw'⟩
theorem PI.or {tg e : Expr} {t t' : TI} (p : PI X tg e t) (q : PI X tg e t') : PI X tg e fun σ H Q => t σ H Q ∨ t' σ H Q := ⟨fun pins s σ H Q I h => h.elim (p.run pins s σ H Q I) (q.run pins s σ H Q I)⟩
/-- the reading of one thing that is walked, as a value's -/
theorem one_core {k : IK} {e : E} {F : CallS} {σ : L2.St} {H : Hp} {Rr : It → Hp → Prop} {S : VK} (hk : k = .seq ∨ k = .enum) (q : RI G k (evEs F [e]) W σ H Rr)
    (st : ∀ (O P1 H1 : Hp) (r1 : List Addr) (x : V) (v : Val) (d : D) (h1 : Hq) (src : Option Nat) (items : List D), RelH G O P1 H1 r1 h1 → RepV G P1 r1 x v → viewV h1 v = some d → semI k [d] = some items → ((src = none ∧ v = .d d) ∨ ∃ n, src = some n ∧ v = .ref n) → (∀ J, ItOk G P1 r1 J k src items → Rr J H1) → S x H1) : RE G (evE F e) W σ H S := by
  obtain ⟨O, P, r, env, h, z, R, re, q, pv⟩ := q
  simp only [evEs] at q
  refine ⟨O, P, r, env, h, ?_⟩
  cases hx : evE F e env h with
  | none => rw [hx] at q; cases q
  | some w =>
    obtain ⟨w, h1⟩ := w
    rw [hx] at q
    cases w with
    | exc c p =>
      cases q
      exact ⟨_, R, re, rfl, pv⟩
    | val v =>
      cases q
      refine ⟨_, R, re, rfl, fun P1 r1 H1 x f1 R1 rv => ?_⟩
      obtain ⟨src, items, e1, kk⟩ := pv
      obtain ⟨d, e2, e3, e4⟩ := one_src hk e1
      exact st O P1 H1 r1 x v d h1 src items R1 rv e2 e3 e4 fun J hJ => kk P1 r1 H1 f1 R1 J hJ
theorem RE.mono {ev : Env → Hq → ER} {σ : L2.St} {H : Hp} {S S' : VK} (q : RE G ev W σ H S) (i : ∀ x H, S x H → S' x H) : RE G ev W σ H S' := by
  obtain ⟨O, P, r, env, h, z, R, re, q, pv⟩ := q
  exact ⟨O, P, r, env, h, z, R, re, q, pv.imp i⟩
/-- a list or a tuple, walked -/
theorem pi_any {tg l : Expr} {tl : TE} (hl : PE X l tl) : PI X tg l (fun σ H R => tl σ H fun x H1 => ∃ a, x = .ref a ∧ (((∃ xs, SqL X.K H1 a xs) ∧ R (Itl X.K a) H1) ∨ ((∃ xs, SqT X.K H1 a xs) ∧ R (Itt X.K a) H1))) := by
  refine ⟨fun pins s σ H R I h => ?_⟩
  refine thn (hl.run pins s σ H _ I h) fun v s1 ⟨x, H1, I1, r1, q1⟩ => ?_
  obtain ⟨a, e, q⟩ := q1
  subst e
  cases r1
  rcases q with ⟨⟨xs, hq⟩, q⟩ | ⟨⟨xs, hq⟩, q⟩
  · obtain ⟨its, rv, p, hz⟩ := I1.list hq
    refine wpAny_pyIter_list p.isList ⟨s1.heap.objs.size, [s1.heap.objs.size], _, _, H1, rfl, I1.kept (t' := s1.toks) fun b o e => Heap.get?_push_of_some _ e, turn_list a _, ⟨_, Heap.get?_push_size _ rfl, rfl, rfl⟩, fun b hb => ?_, q⟩
    obtain rfl : b = s1.heap.objs.size := by simpa using hb
    exact I1.fpOk (Nat.le_refl _) (I1.hok.fresh (Nat.le_refl _))
  · obtain ⟨its, rv, p, hz⟩ := I1.tuple hq
    refine wpAny_pyIter_tuple (show s1.heap.IsTuple a its.toArray from p) ⟨s1.heap.objs.size, [s1.heap.objs.size], _, _, H1, rfl, I1.kept (t' := s1.toks) fun b o e => Heap.get?_push_of_some _ e, turn_tuple a _, ⟨_, Heap.get?_push_size _ rfl, rfl, rfl⟩, fun b hb => ?_, q⟩
    obtain rfl : b = s1.heap.objs.size := by simpa using hb
    exact I1.fpOk (Nat.le_refl _) (I1.hok.fresh (Nat.le_refl _))
theorem ok_iseq {tg l : Expr} {e : E} {F : CallS} (g : Good G X W) (hl : PE X l (RE G (evE F e) W)) : PI X tg l (RI G .seq (evEs F [e]) W) := by
  refine PI.monoR (pi_any hl) fun σ H Rr q => ?_
  refine one_core (.inl rfl) q fun O P1 H1 r1 x v d h1 src items R1 rv e2 e3 e4 k => ?_
  have e3 : itemsOf d = some items := e3
  obtain ⟨a, xs, rfl, _, _, kk⟩ := view_items R1 rv e2 e3
  refine ⟨a, rfl, ?_⟩
  rcases kk with ⟨rfl, kk⟩ | ⟨rfl, kk⟩
  · exact .inl ⟨⟨xs, g.hK ▸ kk⟩, k _ (it_seq R1 rv e2 e3 e4 (g.hK ▸ .inl ⟨⟨_, rfl⟩, rfl⟩))⟩
  · exact .inr ⟨⟨xs, g.hK ▸ kk⟩, k _ (it_seq R1 rv e2 e3 e4 (g.hK ▸ .inr ⟨⟨_, rfl⟩, rfl⟩))⟩
theorem enumD_length : ∀ (xs : List D) (k : Nat), (enumD k xs).length = xs.length
  | [], _ => rfl
  | x :: r, k => by simp only [enumD, List.length_cons, enumD_length r]
theorem enumD_get : ∀ (xs : List D) (k i : Nat) (z : D), (enumD k xs)[i]? = some z → ∃ x, xs[i]? = some x ∧ z = .tuple [.int ((k + i : Nat) : Int), x]
  | [], _, _, _, h => by simp [enumD] at h
  | x :: r, k, 0, z, h => by
    simp only [enumD, List.getElem?_cons_zero, Option.some.injEq] at h
    exact ⟨x, rfl, h.symm⟩
  | x :: r, k, i + 1, z, h => by
    simp only [enumD, List.getElem?_cons_succ] at h
    obtain ⟨y, e1, e2⟩ := enumD_get r (k + 1) i z h
    exact ⟨y, e1, by rw [e2, Nat.add_right_comm, Nat.add_assoc]⟩
theorem pair_new {K : PySem.W.Frag} {P : Hp} {T : Addr} {x y : V} {dx dy : D} (h1 : Rp K P x dx) (h2 : Rp K P y dy) (s : P T = none) : Rp K (upd P T (.tup [x, y])) (.ref T) (.tuple [dx, dy]) :=
  .tup (.inl (.inl upd_same)) (by show 2 ≤ sizeLine; decide) ((RpAll.cons h1 (.cons h2 .nil)).mono (same_upd s))
theorem it_enum {a : Addr} {v : Val} {d : D} {h0 : Hq} {src : Option Nat} {items : List D} {H : Hp} {J : It} (R0 : RelH G O P0 H r0 h0) (rv : RepV G P0 r0 (.ref a) v) (ev : viewV h0 v = some d) (ei : itemsOf d = some items) (hs : (src = none ∧ v = .d d) ∨ ∃ n, src = some n ∧ v = .ref n)
    (hJ : ((∃ ds, d = .list ds) ∧ J = Ite G.K a) ∨ ((∃ ds, d = .tuple ds) ∧ J = Iet G.K a)) : ItOk G P0 r0 J .enum src (enumD 0 items) := by
  obtain ⟨h1, h2⟩ := itemsL rv ev ei hs
  have hl0 := enumD_length items 0
  refine ⟨by rw [hl0]; exact rep_size R0 rv ev ei, fun O P H r h f R e => ?_, fun O P H r h i z y f R e1 e2 => ?_⟩
  · rw [hl0] at e ⊢
    obtain ⟨b, xs, eb, hl, k⟩ := h1 O P H r h f R e
    cases eb
    rcases hJ with ⟨⟨ds, rfl⟩, rfl⟩ | ⟨⟨ds, rfl⟩, rfl⟩
    · rcases k with ⟨_, k⟩ | ⟨⟨_, k⟩, _⟩
      · exact ⟨xs, k, Nat.le_of_eq hl⟩
      · cases k
    · rcases k with ⟨⟨_, k⟩, _⟩ | ⟨_, k⟩
      · cases k
      · exact ⟨xs, k, hl⟩
  · rw [hl0] at e2
    obtain ⟨z', e3, rfl⟩ := enumD_get _ _ _ _ e1
    have e4 : ∃ w, itemAt .seq src h items.length i z' = some w ∧ y = .tuple [.int (i : Nat), w] := by
      cases src with
      | none =>
        simp only [itemAt, Option.some.injEq] at e2 ⊢
        exact ⟨z', rfl, by rw [← e2, Nat.zero_add]⟩
      | some n =>
        simp only [itemAt] at e2 ⊢
        split at e2
        · cases e2
          exact ⟨_, rfl, rfl⟩
        · cases e2
    obtain ⟨w', e4, rfl⟩ := e4
    obtain ⟨b, xs, w, eb, hl, hw, rw', k⟩ := h2 O P H r h i z' w' f R e3 e4
    cases eb
    rcases hJ with ⟨⟨ds, rfl⟩, rfl⟩ | ⟨⟨ds, rfl⟩, rfl⟩
    · rcases k with ⟨_, k⟩ | ⟨⟨_, k⟩, _⟩
      · refine ⟨⟨xs, w, k, hw⟩, fun v H' ⟨T, x, e5, hT, e6, e7⟩ => ?_⟩
        subst e5 e6
        have e5 := e7 xs k
        rw [hw] at e5
        cases e5
        obtain ⟨R2, f2⟩ := R.newP (o := .tup [.int (i : Nat), w]) hT (fun ps z => by cases z)
        exact ⟨_, R2, f2, pair_new (.int _) rw' (R.fresh hT)⟩
      · cases k
    · rcases k with ⟨⟨_, k⟩, _⟩ | ⟨_, k⟩
      · cases k
      · refine ⟨⟨xs, w, k, hw⟩, fun v H' ⟨T, x, e5, hT, e6, e7⟩ => ?_⟩
        subst e5 e6
        have e5 := e7 xs k
        rw [hw] at e5
        cases e5
        obtain ⟨R2, f2⟩ := R.newP (o := .tup [.int (i : Nat), w]) hT (fun ps z => by cases z)
        exact ⟨_, R2, f2, pair_new (.int _) rw' (R.fresh hT)⟩
theorem evEs_len {F : CallS} : ∀ {es : List E} {env : Env} {h h1 : Hq} {vs : List Val}, evEs F es env h = some (.vals vs, h1) → vs.length = es.length
  | [], env, h, h1, vs, e => by
    simp only [evEs] at e
    cases e
    rfl
  | a :: es, env, h, h1, vs, e => by
    simp only [evEs] at e
    unfold consA at e
    split at e
    · split at e
      · rename_i v h2 _ _ vs' h3 e2
        cases e
        simp only [List.length_cons, evEs_len e2]
      · cases e
      · cases e
    · cases e
    · cases e
theorem RI.rl {k : IK} {es : List E} {F : CallS} {σ : L2.St} {H : Hp} {Rr : It → Hp → Prop} {S : List V → Hp → Prop} (q : RI G k (evEs F es) W σ H Rr)
    (st : ∀ (O P1 H1 : Hp) (r1 : List Addr) (xs : List V) (vs : List Val) (h1 : Hq) (src : Option Nat) (items : List D), RelH G O P1 H1 r1 h1 → RepL G P1 r1 xs vs → vs.length = es.length → srcOf k vs h1 = some (src, items) → (∀ J, ItOk G P1 r1 J k src items → Rr J H1) → S xs H1) : RL G (evEs F es) W σ H S := by
  obtain ⟨O, P, r, env, h, z, R, re, q, pv⟩ := q
  obtain ⟨z, h1⟩ := z
  refine ⟨O, P, r, env, h, (z, h1), R, re, q, ?_⟩
  cases z with
  | exc c p => exact pv
  | vals vs =>
    obtain ⟨src, items, e1, kk⟩ := pv
    exact fun P1 r1 H1 xs f R1 rl => st O P1 H1 r1 xs vs h1 src items R1 rl (evEs_len q) e1 fun J hJ => kk P1 r1 H1 f R1 J hJ
theorem ok_ienum {elts : List Expr} {kk : Nat} {tpos p : Pos} {l : Expr} {e : E} {F : CallS} (g : Good G X W) (hg : Gl X "enumerate") (hm : X.mg "enumerate" = none) (ha : PA X [l] (RL G (evEs F [e]) W)) (hs : starEach [l] X.env = (false, eval l X.env) :: starEach [] X.env) : PI X (.Tuple elts kk tpos) (.Call (.Name "enumerate" p) [l] [] pos) (RI G .enum (evEs F [e]) W) := by
  refine PI.monoR (pi_enumA hg hm ha hs) fun σ H Rr q => ?_
  refine q.rl fun O P1 H1 r1 xs vs h1 src items R1 rl hl e1 k => ?_
  cases rl with
  | nil => cases hl
  | cons rv t =>
    cases t with
    | cons _ _ => simp at hl
    | nil =>
      rename_i x v
      obtain ⟨d, e2, e3, e4⟩ := one_src (.inr rfl) e1
      have e5 : ∃ ys, itemsOf d = some ys ∧ items = enumD 0 ys := by
        have e3 : (match itemsOf d with
          | some ys => some (enumD 0 ys)
          | none => none) = some items := e3
        split at e3
        · cases e3
          exact ⟨_, by assumption, rfl⟩
        · cases e3
      obtain ⟨ys, e5, rfl⟩ := e5
      obtain ⟨a, xs, rfl, _, _, kk⟩ := view_items R1 rv e2 e5
      refine ⟨a, xs, rfl, ?_⟩
      rcases kk with ⟨rfl, kk⟩ | ⟨rfl, kk⟩
      · exact .inl ⟨g.hK ▸ kk, k _ (it_enum R1 rv e2 e5 e4 (g.hK ▸ .inl ⟨⟨_, rfl⟩, rfl⟩))⟩
      · exact .inr ⟨g.hK ▸ kk, k _ (it_enum R1 rv e2 e5 e4 (g.hK ▸ .inr ⟨⟨_, rfl⟩, rfl⟩))⟩
end
end Ev
end

section
set_option Elab.async false
set_option linter.all false
set_option maxRecDepth 100000
set_option autoImplicit false
/-! ranges, pairs; targets; comprehensions -/
namespace Ev
open PySem PySem.Spec PyProof.Rows L2 RZ
section
variable {G : GI} {X : Cx} {W : XK} {pos : Pos} {O P0 : Hp} {r0 : List Addr}
theorem rangeD_length (a b : Int) : (rangeD a b).length = (b - a).toNat := by unfold rangeD; simp
theorem rangeD_get {a b : Int} {i : Nat} {z : D} (h : (rangeD a b)[i]? = some z) : i < (b - a).toNat ∧ z = .int (a + (i : Nat)) := by
  unfold rangeD at h
  rw [List.getElem?_map] at h
  by_cases hi : i < (b - a).toNat
  · rw [List.getElem?_range hi] at h
    exact ⟨hi, (Option.some.inj h).symm⟩
  · rw [List.getElem?_eq_none (by simpa using hi)] at h
    cases h
theorem it_range {a b : Int} (hok : RgOk a b) : ItOk G P0 r0 (Itr a (b - a).toNat) .range none (rangeD a b) := by
  refine ⟨?_, fun O P H r h f R e => ?_, fun O P H r h i z y f R e1 e2 => ?_⟩
  · rw [rangeD_length, sizeLine_eq]; have := hok.2.2.2.2; omega
  · rw [rangeD_length]; exact Nat.le_refl _
  · obtain ⟨e3, rfl⟩ := rangeD_get e1
    simp only [itemAt, Option.some.injEq] at e2
    subst e2
    refine ⟨e3, fun v H' ⟨e4, e5⟩ => ?_⟩
    subst e4 e5
    exact ⟨P, R, .refl, .int _⟩
theorem pure_of_range {vs : List Val} {h : Hq} {src : Option Nat} {items : List D} (e : srcOf .range vs h = some (src, items)) : ∃ ds, pureL vs = some ds ∧ src = none ∧ semI .range ds = some items := by
  rcases src_cases e with ⟨n, d, _, _, _, hk, _⟩ | e
  · rcases hk with hk | hk <;> cases hk
  · exact e
theorem pure_of_zip {vs : List Val} {h : Hq} {src : Option Nat} {items : List D} (e : srcOf .zip vs h = some (src, items)) : ∃ ds, pureL vs = some ds ∧ src = none ∧ semI .zip ds = some items := by
  rcases src_cases e with ⟨n, d, _, _, _, hk, _⟩ | e
  · rcases hk with hk | hk <;> cases hk
  · exact e
theorem ok_irange1 {tg : Expr} {a : Expr} {ea : E} {p : Pos} {F : CallS} (hg : Gl X "range") (hm : X.mg "range" = none) (ha : PA X [a] (RL G (evEs F [ea]) W)) (hs : starEach [a] X.env = [(false, eval a X.env)]) : PI X tg (.Call (.Name "range" p) [a] [] pos) (RI G .range (evEs F [ea]) W) := by
  refine PI.monoR (pi_range1 hg hm ha hs) fun σ H Rr q => ?_
  refine q.rl fun O P1 H1 r1 xs vs h1 src items R1 rl hl e1 k => ?_
  obtain ⟨ds, e2, rfl, e3⟩ := pure_of_range e1
  obtain ⟨b, c, ok, rfl, hx⟩ := rg_vals rl (pureL_views (h := h1) e2) e3
  have z := ok
  unfold RgOk at z
  rcases hx with ⟨rfl, rfl⟩ | rfl
  · refine ⟨c, rfl, by omega, by omega, ?_⟩
    have e5 := k _ (it_range ok)
    simpa using e5
  · have := rl.length
    simp at this hl
    omega
theorem ok_irange2 {tg : Expr} {a b : Expr} {ea eb : E} {p : Pos} {F : CallS} (hg : Gl X "range") (hm : X.mg "range" = none) (ha : PA X [a, b] (RL G (evEs F [ea, eb]) W)) (hs : starEach [a, b] X.env = [(false, eval a X.env), (false, eval b X.env)]) (hs2 : starEach [b] X.env = [(false, eval b X.env)]) : PI X tg (.Call (.Name "range" p) [a, b] [] pos) (RI G .range (evEs F [ea, eb]) W) := by
  refine PI.monoR (pi_range2 hg hm ha hs hs2) fun σ H Rr q => ?_
  refine q.rl fun O P1 H1 r1 xs vs h1 src items R1 rl hl e1 k => ?_
  obtain ⟨ds, e2, rfl, e3⟩ := pure_of_range e1
  obtain ⟨b, c, ok, rfl, hx⟩ := rg_vals rl (pureL_views (h := h1) e2) e3
  have z := ok
  unfold RgOk at z
  rcases hx with ⟨rfl, rfl⟩ | rfl
  · have := rl.length
    simp at this hl
    omega
  · exact ⟨b, c, rfl, by omega, k _ (it_range ok)⟩
theorem zipD_le : ∀ xs ys : List D, (zipD xs ys).length ≤ xs.length ∧ (zipD xs ys).length ≤ ys.length ∧ (xs.length ≤ (zipD xs ys).length ∨ ys.length ≤ (zipD xs ys).length)
  | [], _ => by simp [zipD]
  | _ :: _, [] => by simp [zipD]
  | x :: r, y :: s => by
    have := zipD_le r s
    simp only [zipD, List.length_cons]
    omega
theorem zipD_get : ∀ (xs ys : List D) (i : Nat) (z : D), (zipD xs ys)[i]? = some z → ∃ x y, xs[i]? = some x ∧ ys[i]? = some y ∧ z = .tuple [x, y]
  | [], _, _, _, h => by simp [zipD] at h
  | _ :: _, [], _, _, h => by simp [zipD] at h
  | x :: r, y :: s, 0, z, h => by
    simp only [zipD, List.getElem?_cons_zero, Option.some.injEq] at h
    exact ⟨x, y, rfl, rfl, h.symm⟩
  | x :: r, y :: s, i + 1, z, h => by
    simp only [zipD, List.getElem?_cons_succ] at h
    exact zipD_get r s i z h
theorem it_zip {k : Bool} {a b : Addr} {xs ys : List D} {xv yv : List V} {J : It} (hx : RpAll G.K P0 xv xs) (hy : RpAll G.K P0 yv ys) (hz : xs.length ≤ sizeLine)
    (hJ : (J = Itz G.K a b ∧ ∀ O P H r h, Fut P0 r0 P r → RelH G O P H r h → SqL G.K H a xv ∧ SqL G.K H b yv) ∨ (J = ItzT G.K a b ∧ ∀ O P H r h, Fut P0 r0 P r → RelH G O P H r h → SqT G.K H a xv ∧ SqT G.K H b yv)) : ItOk G P0 r0 J .zip none (zipD xs ys) := by
  obtain ⟨l1, l2, l3⟩ := zipD_le xs ys
  have m1 := hx.length
  have m2 := hy.length
  refine ⟨by omega, fun O P H r h f R e => ?_, fun O P H r h i z y f R e1 e2 => ?_⟩
  · rcases hJ with ⟨rfl, hJ⟩ | ⟨rfl, hJ⟩
    · obtain ⟨q1, q2⟩ := hJ O P H r h f R
      exact ⟨xv, yv, q1, q2, by omega⟩
    · obtain ⟨q1, q2⟩ := hJ O P H r h f R
      exact ⟨xv, yv, q1, q2, by omega⟩
  · obtain ⟨x, x', e3, e4, rfl⟩ := zipD_get _ _ _ _ e1
    simp only [itemAt, Option.some.injEq] at e2
    subst e2
    obtain ⟨w, h1, h2⟩ := hx.get e3
    obtain ⟨u, h3, h4⟩ := hy.get e4
    rcases hJ with ⟨rfl, hJ⟩ | ⟨rfl, hJ⟩
    · obtain ⟨q1, q2⟩ := hJ O P H r h f R
      refine ⟨⟨xv, yv, w, u, q1, q2, h1, h3⟩, fun v H' ⟨T, x2, y2, e5, hT, e6, e7, e8⟩ => ?_⟩
      subst e5 e6
      have e9 := e7 _ q1
      have e10 := e8 _ q2
      rw [h1] at e9
      rw [h3] at e10
      cases e9
      cases e10
      obtain ⟨R2, f2⟩ := R.newP (o := .tup [w, u]) hT (fun ps z => by cases z)
      exact ⟨_, R2, f2, pair_new (h2.mono f.same) (h4.mono f.same) (R.fresh hT)⟩
    · obtain ⟨q1, q2⟩ := hJ O P H r h f R
      refine ⟨⟨xv, yv, w, u, q1, q2, h1, h3⟩, fun v H' ⟨T, x2, y2, e5, hT, e6, e7, e8⟩ => ?_⟩
      subst e5 e6
      have e9 := e7 _ q1
      have e10 := e8 _ q2
      rw [h1] at e9
      rw [h3] at e10
      cases e9
      cases e10
      obtain ⟨R2, f2⟩ := R.newP (o := .tup [w, u]) hT (fun ps z => by cases z)
      exact ⟨_, R2, f2, pair_new (h2.mono f.same) (h4.mono f.same) (R.fresh hT)⟩
theorem rp_list {K : PySem.W.Frag} {P : Hp} {v : V} {ds : List D} (h : Rp K P v (.list ds)) : ∃ a xs, v = .ref a ∧ P a = some (.lst xs) ∧ xs.length ≤ sizeLine ∧ RpAll K P xs ds := by
  cases h with
  | lst a b c => exact ⟨_, _, rfl, a, b, c⟩
theorem rp_tup {K : PySem.W.Frag} {P : Hp} {v : V} {ds : List D} (h : Rp K P v (.tuple ds)) : ∃ a xs, v = .ref a ∧ SqT K P a xs ∧ xs.length ≤ sizeLine ∧ RpAll K P xs ds := by
  cases h with
  | tup a b c => exact ⟨_, _, rfl, a, b, c⟩
theorem ok_izip {elts : List Expr} {kk : Nat} {tpos p : Pos} {l l2 : Expr} {e e2 : E} {F : CallS} (g : Good G X W) (hg : Gl X "zip") (hm : X.mg "zip" = none) (ha : PA X [l, l2] (RL G (evEs F [e, e2]) W))
    (hs : starEach [l, l2] X.env = (false, eval l X.env) :: starEach [l2] X.env) (hpl : (backTo pos (starEach [l2] X.env)).any (·.1) = false) : PI X (.Tuple elts kk tpos) (.Call (.Name "zip" p) [l, l2] [] pos) (RI G .zip (evEs F [e, e2]) W) := by
  refine PI.monoR (pi_zipA hg hm ha hs hpl) fun σ H Rr q => ?_
  refine q.rl fun O P1 H1 r1 xs vs h1 src items R1 rl hl e1 k => ?_
  obtain ⟨ds, e2, rfl, e3⟩ := pure_of_zip e1
  have ra := pureL_rep rl e2
  have e4 : (∃ as bs, ds = [.list as, .list bs] ∧ items = zipD as bs) ∨ ∃ as bs, ds = [.tuple as, .tuple bs] ∧ items = zipD as bs := by
    unfold semI at e3
    split at e3 <;> simp only [reduceCtorEq] at * <;> first | (cases e3; done) | skip
    · cases e3
      exact .inl ⟨_, _, rfl, rfl⟩
    · cases e3
      exact .inr ⟨_, _, rfl, rfl⟩
  rcases e4 with ⟨as, bs, rfl, rfl⟩ | ⟨as, bs, rfl, rfl⟩
  · cases ra with
    | cons r1' t =>
      cases t with
      | cons r2' t =>
        cases t
        obtain ⟨a, xv, rfl, s1, s2, s3⟩ := rp_list r1'
        obtain ⟨b, yv, rfl, t1, t2, t3⟩ := rp_list r2'
        refine ⟨a, b, xv, yv, rfl, .inl ⟨.inl (.inl (R1.sub _ _ s1)), .inl (.inl (R1.sub _ _ t1)), ?_⟩⟩
        refine g.hK ▸ k _ (it_zip (k := true) s3 t3 (by rw [← s3.length]; exact s2) (.inl ⟨rfl, fun O P H r h f R => ⟨.inl (.inl (R.sub _ _ (f.same _ _ s1))), .inl (.inl (R.sub _ _ (f.same _ _ t1)))⟩⟩))
  · cases ra with
    | cons r1' t =>
      cases t with
      | cons r2' t =>
        cases t
        obtain ⟨a, xv, rfl, s1, s2, s3⟩ := rp_tup r1'
        obtain ⟨b, yv, rfl, t1, t2, t3⟩ := rp_tup r2'
        refine ⟨a, b, xv, yv, rfl, .inr ⟨g.hK ▸ same_sqT R1.sub s1, g.hK ▸ same_sqT R1.sub t1, ?_⟩⟩
        refine g.hK ▸ k _ (it_zip (k := true) s3 t3 (by rw [← s3.length]; exact s2) (.inr ⟨rfl, fun O P H r h f R => ⟨same_sqT R.sub (same_sqT f.same s1), same_sqT R.sub (same_sqT f.same t1)⟩⟩))
/-! targets -/
mutual
def tgs : Tg → List Nat
  | .nm i => [i]
  | .tup ts => tgsL ts
def tgsL : List Tg → List Nat
  | [] => []
  | t :: ts => tgs t ++ tgsL ts
end
theorem RelE.set {P : Hp} {r : List Addr} {σ : L2.St} {env : Env} {i : Nat} {x : V} {v : Val} (h : RelE G P r σ env) (q : RepV G P r x v) : RelE G P r (σ.set i (some x)) (env.set i (some v)) := by
  refine ⟨by rw [List.length_set, List.length_set]; exact h.le, fun j w e => ?_⟩
  rcases set_get e with ⟨rfl, e'⟩ | ⟨hj, e⟩
  · cases e'
    have hl : j < env.length := by
      by_cases hl : j < env.length
      · exact hl
      · rw [List.getElem?_eq_none (by rw [List.length_set]; omega)] at e
        cases e
    exact ⟨x, by rw [List.getElem?_set_self (Nat.lt_of_lt_of_le hl h.le)], q⟩
  · obtain ⟨y, e1, e2⟩ := h.at_ j w e
    exact ⟨y, by rw [List.getElem?_set_ne (Ne.symm hj)]; exact e1, e2⟩
/-- a slot forgotten -/
theorem RelE.drop {P : Hp} {r : List Addr} {σ : L2.St} {env : Env} {i : Nat} (h : RelE G P r σ env) : RelE G P r (σ.set i none) (env.set i none) := by
  refine ⟨by rw [List.length_set, List.length_set]; exact h.le, fun j w e => ?_⟩
  rcases set_get e with ⟨rfl, e'⟩ | ⟨hj, e⟩
  · cases e'
  · obtain ⟨y, e1, e2⟩ := h.at_ j w e
    exact ⟨y, by rw [List.getElem?_set_ne (Ne.symm hj)]; exact e1, e2⟩
theorem RelE.wipe {P : Hp} {r : List Addr} {σ : L2.St} {env : Env} (h : RelE G P r σ env) : ∀ vs : List Nat, RelE G P r (L2.wipe σ vs) (wipeE env vs)
  | [] => h
  | v :: vs => by
    simp only [L2.wipe, wipeE]
    exact (RelE.wipe h vs).drop
/-- alike but for some slots -/
def Alike (is : List Nat) (σ σ' : L2.St) : Prop := σ'.length = σ.length ∧ ∀ j, j ∉ is → σ'[j]? = σ[j]?
theorem wipe_at (σ : L2.St) (j : Nat) : ∀ vs : List Nat, (L2.wipe σ vs)[j]? = if j ∈ vs ∧ j < σ.length then some none else σ[j]?
  | [] => by simp [L2.wipe]
  | v :: vs => by
    simp only [L2.wipe]
    rw [List.getElem?_set, wipe_length, wipe_at σ j vs]
    by_cases hv : v = j
    · subst hv
      by_cases hl : v < σ.length
      · simp [hl]
      · simp [hl]
    · have hv' : ¬ (j = v) := fun z => hv z.symm
      simp [hv, hv']
theorem Alike.wipe {is vs : List Nat} {σ σ' : L2.St} (h : Alike is (L2.wipe σ vs) σ') (hi : ∀ i ∈ is, i ∈ vs) : L2.wipe σ' vs = L2.wipe σ vs := by
  apply List.ext_getElem?
  intro j
  have hl : σ'.length = σ.length := by rw [h.1, wipe_length]
  rw [wipe_at, wipe_at, hl]
  by_cases hj : j ∈ vs
  · by_cases hl2 : j < σ.length
    · simp [hj, hl2]
    · simp only [hl2, and_false, if_false]
      rw [List.getElem?_eq_none (by omega), List.getElem?_eq_none (by omega)]
  · have e := h.2 j (fun z => hj (hi j z))
    simp only [hj, false_and, if_false]
    rw [e, wipe_at]
    simp [hj]
def GT (G : GI) (t : Tg) : TG := fun x σ H Q => ∃ (O P : Hp) (r : List Addr) (env : Env) (h : Hq) (v : Val) (env' : Env), RelH G O P H r h ∧ RelE G P r σ env ∧ RepV G P r x v ∧ asgV t v env = some env' ∧ ∀ σ', RelE G P r σ' env' → Alike (tgs t) σ σ' → Q σ' H
def GTs (G : GI) (ts : List Tg) : TGs := fun xs σ H Q => ∃ (O P : Hp) (r : List Addr) (env : Env) (h : Hq) (ds : List D) (env' : Env), RelH G O P H r h ∧ RelE G P r σ env ∧ RpAll G.K P xs ds ∧ asgTs ts ds env = some env' ∧ ∀ σ', RelE G P r σ' env' → Alike (tgsL ts) σ σ' → Q σ' H
theorem PG.monoR {X : Cx} {e : Expr} {t t' : TG} (p : PG X e t) (m : ∀ v σ H Q, t' v σ H Q → t v σ H Q) : PG X e t' := ⟨fun pins s σ H v u Q I r q => p.run pins s σ H v u Q I r (m _ _ _ _ q)⟩
theorem PGs.monoR {X : Cx} {e : List Expr} {t t' : TGs} (p : PGs X e t) (m : ∀ v σ H Q, t' v σ H Q → t v σ H Q) : PGs X e t' := ⟨fun pins s σ H v u Q I r q => p.run pins s σ H v u Q I r (m _ _ _ _ q)⟩
theorem alike_set {σ : L2.St} {i : Nat} {x : Option V} {is : List Nat} (hi : i ∈ is) : Alike is σ (σ.set i x) := ⟨by rw [List.length_set], fun j hj => by
  have hne : i ≠ j := fun z => hj (by rw [← z]; exact hi)
  rw [List.getElem?_set_ne hne]⟩
theorem Alike.trans {is js : List Nat} {a b c : L2.St} (h1 : Alike is a b) (h2 : Alike js b c) : Alike (is ++ js) a c := ⟨h2.1.trans h1.1, fun j hj => by
  simp only [List.mem_append, not_or] at hj
  rw [h2.2 j hj.2, h1.2 j hj.1]⟩
theorem ok_gnm {i : Nat} {x : Str} (hN : X.N.Nodup) (hi : X.N[i]? = some x) (hx : Loc X.env.scope x) (hf : X.fn x = true ∨ X.env.scope.names.lookup x = some .local) : PG X (.Name x pos) (GT G (.nm i)) := by
  refine PG.monoR (pg_name hN hi hx hf) fun x σ H Q q => ?_
  obtain ⟨O, P, r, env, h, v, env', R, re, rv, e, k⟩ := q
  have e' : some (env.set i (some v)) = some env' := by
    cases v with
    | d d => simpa only [asgV, asgT] using e
    | ref n => simpa only [asgV] using e
  cases e'
  exact k _ (re.set rv) (alike_set (by simp [tgs]))
theorem ok_gnil : PGs X [] (GTs G []) := by
  refine PGs.monoR pgs_nil fun xs σ H Q q => ?_
  obtain ⟨O, P, r, env, h, ds, env', R, re, rv, e, k⟩ := q
  cases rv with
  | nil =>
    simp only [asgTs] at e
    cases e
    exact ⟨rfl, k _ re ⟨rfl, fun _ _ => rfl⟩⟩
  | cons a b => simp [asgTs] at e
theorem ok_gcons {e : Expr} {es : List Expr} {t : Tg} {ts : List Tg} (h1 : PG X e (GT G t)) (h2 : PGs X es (GTs G ts)) (hs : (assignEach (e :: es) X.env).map (·.2) = assign e X.env :: (assignEach es X.env).map (·.2)) : PGs X (e :: es) (GTs G (t :: ts)) := by
  refine PGs.monoR (pgs_cons h1 h2 hs) fun xs σ H Q q => ?_
  obtain ⟨O, P, r, env, h, ds, env', R, re, rv, e, k⟩ := q
  cases rv with
  | nil => simp [asgTs] at e
  | cons a b =>
    simp only [asgTs] at e
    split at e
    · rename_i env1 e1
      refine ⟨_, _, rfl, O, P, r, env, h, .d _, env1, R, re, a, by simpa only [asgV] using e1, fun σ1 re1 al1 => ?_⟩
      refine ⟨O, P, r, env1, h, _, env', R, re1, b, e, fun σ2 re2 al2 => k σ2 re2 ?_⟩
      simp only [tgsL]
      exact al1.trans al2
    · cases e
theorem asgTs_len : ∀ {ts : List Tg} {ds : List D} {env env' : Env}, asgTs ts ds env = some env' → ds.length = ts.length
  | [], [], _, _, _ => rfl
  | [], _ :: _, _, _, e => by simp [asgTs] at e
  | _ :: _, [], _, _, e => by simp [asgTs] at e
  | t :: ts, x :: xs, env, env', e => by
    simp only [asgTs] at e
    split at e
    · simp only [List.length_cons, asgTs_len e]
    · cases e
theorem ok_gtup {es : List Expr} {k : Nat} {ts : List Tg} (g : Good G X W) (h : PGs X es (GTs G ts)) (hn : (assignEach es X.env).length = ts.length) (hst : (assignEach es X.env).findIdx? (·.1) = none) : PG X (.Tuple es k pos) (GT G (.tup ts)) := by
  refine PG.monoR (pg_tup g.calm h hn hst) fun x σ H Q q => ?_
  obtain ⟨O, P, r, env, h, v, env', R, re, rv, e, k⟩ := q
  cases v with
  | ref n => simp [asgV] at e
  | d d =>
    simp only [asgV] at e
    cases d with
    | tuple ds =>
      simp only [asgT] at e
      obtain ⟨a, xs, rfl, h1, h2, h3⟩ := rp_tup rv
      refine ⟨a, xs, rfl, g.hK ▸ same_sqT R.sub h1, by rw [h3.length, asgTs_len e], O, P, r, env, h, ds, env', R, re, h3, e, fun σ' re' al => k σ' re' ?_⟩
      simpa only [tgs] using al
    | _ => simp [asgT] at e
end
end Ev
end

section
set_option Elab.async false
set_option linter.all false
set_option maxRecDepth 100000
set_option autoImplicit false
/-! comprehensions -/
namespace Ev
open PySem PySem.Spec PyProof.Rows L2 RZ
/-- nothing is let out -/
def W0 : XK := fun _ _ _ => False
section
variable {G : GI} {X : Cx} {W : XK} {pos : Pos} {O P0 : Hp} {r0 : List Addr}
theorem Good.blk (g : Good G X W) (s : Shared) (H : Hp) (scope : Scope) (cenv : PySem.Env) (fp : List Addr) : Good G (X.blk s H scope cenv fp) W0 := by
  refine ⟨g.hK, g.hu, g.calm, g.nd, ?_⟩
  intro u s' h
  obtain ⟨a, B, sI, pins, σ, H, cls, d, e, I, nb, up, sky, na, os, ag, w⟩ := h
  exact w.elim
theorem drop_cons {α : Type} {l : List α} {i : Nat} (h : i < l.length) : ∃ x, l.drop i = x :: l.drop (i + 1) ∧ l[i]? = some x := ⟨l[i], List.drop_eq_getElem_cons h, by simp [h]⟩
theorem lc_sem {k : IK} {F : CallS} {its eifs : List E} {ee : E} {t : Tg} {own : List Nat} (ht : ∀ i ∈ tgs t, i ∈ own) (σ : L2.St) (H : Hp) (Q : VK) (q : RE G (evE F (.comp ee t k its eifs own)) W σ H Q) : tLc (RI G k (evEs F its) W) (GT G t) (RT G (evTs F eifs) W0) (RE G (evE F ee) W0) own σ H Q := by
  obtain ⟨O, P, r, env, h, z, R, re, q, pv⟩ := q
  simp only [evE] at q
  unfold bndA at q
  show RI G k (evEs F its) W σ H _
  refine ⟨O, P, r, env, h, ?_⟩
  split at q
  rotate_left
  · rename_i c p h1 e1
    cases q
    exact ⟨_, R, re, e1, pv⟩
  · cases q
  rename_i vs h1 e1
  refine ⟨_, R, re, e1, ?_⟩
  dsimp only at q
  split at q
  rotate_left
  · cases q
  rename_i src items e2
  split at q
  rotate_left
  · cases q
  rename_i ys h2 e3
  cases q
  refine ⟨src, items, e2, fun P1 r1 H1 f1 R1 J hJ A hA => ?_⟩
  have hO : O A = none := by
    cases e : O A with
    | none => rfl
    | some o => rw [(R1.out A o e).1] at hA; cases hA
  refine ⟨fun i m H => m = items.length - i ∧ i ≤ items.length ∧ ∃ (P2 : Hp) (r2 : List Addr) (h2' : Hq) (acc : List D) (xs : List V), RelH G (upd O A (.lst xs)) P2 H r2 h2' ∧ Fut P1 r1 P2 r2 ∧ RpAll G.K P2 xs acc ∧ xs.length ≤ i ∧ loopC k src items.length t (evTs F eifs) (evE F ee) (wipeE env own) i (items.drop i) acc h2' = some (ys, h2),
    ⟨_, rfl, Nat.zero_le _, P1, r1, h1, [], [], R1.outNew hA, .refl, .nil, Nat.le_refl _, by simpa using e3⟩, ?_⟩
  rintro i m H2 ⟨rfl, hi, P2, r2, h2', acc, xs, R2, f2, hx, hl, e4⟩
  by_cases hlt : i < items.length
  · obtain ⟨x, hd, hx'⟩ := drop_cons hlt
    rw [hd] at e4
    simp only [loopC] at e4
    split at e4
    rotate_left
    · cases e4
    rename_i y hy
    obtain ⟨go, yl⟩ := hJ.go _ P2 H2 r2 h2' i x y f2 R2 hx' hy
    refine .inr ⟨go, fun H' => ∃ (P2 : Hp) (r2 : List Addr) (h2' : Hq) (acc : List D) (xs : List V), RelH G (upd O A (.lst xs)) P2 H' r2 h2' ∧ Fut P1 r1 P2 r2 ∧ RpAll G.K P2 xs acc ∧ xs.length ≤ i + 1 ∧ loopC k src items.length t (evTs F eifs) (evE F ee) (wipeE env own) (i + 1) (items.drop (i + 1)) acc h2' = some (ys, h2),
      fun H' hH' => ⟨_, by omega, rfl, hlt, hH'⟩, fun v H3 hv => ?_⟩
    obtain ⟨P3, R3, f3, rv⟩ := yl v H3 hv
    split at e4
    rotate_left
    · cases e4
    rename_i env' ea
    have f13 := f2.trans f3
    have rw1 : RelE G P3 r2 (L2.wipe σ own) (wipeE env own) := (re.fut (f1.trans f13)).wipe own
    refine ⟨_, P3, r2, wipeE env own, h2', .d y, env', R3, rw1, rv, by simpa only [asgV] using ea, fun σ' re' al => ⟨al.wipe ht, ?_⟩⟩
    split at e4
    · rename_i h4 ec
      refine ⟨_, P3, r2, env', h2', _, R3, re', ec, fun P5 r5 H5 b f5 R5 rb => ?_⟩
      cases rb
      refine ⟨true, rfl, iteT ?_⟩
      split at e4
      · rename_i w h5 ee'
        refine ⟨_, P5, r5, env', h4, _, R5, re'.fut f5, ee', fun P6 r6 H6 u f6 R6 ru => ?_⟩
        refine ⟨xs, (R6.out A _ upd_same).1, ?_, P6, r6, h5, acc ++ [w], xs ++ [u], R6.outPut, ((f13.trans f5).trans f6), ?_, by simp; omega, e4⟩
        · have := hJ.size
          omega
        · exact (hx.mono ((f3.trans f5).trans f6).same).append (.cons ru .nil)
      · cases e4
    · rename_i h4 ec
      refine ⟨_, P3, r2, env', h2', _, R3, re', ec, fun P5 r5 H5 b f5 R5 rb => ?_⟩
      cases rb
      refine ⟨false, rfl, iteF ?_⟩
      exact ⟨P5, r5, h4, acc, xs, R5, f13.trans f5, hx.mono (f3.trans f5).same, by omega, e4⟩
    · cases e4
  · obtain rfl : i = items.length := by omega
    rw [List.drop_length] at e4
    simp only [loopC] at e4
    split at e4
    · rename_i he
      cases e4
      refine .inl ⟨hJ.stop _ P2 H2 r2 _ f2 R2 he, ?_⟩
      have hs := hJ.size
      obtain ⟨R3, f3⟩ := R2.outEnd hO
      exact pv _ r2 H2 (.ref A) ((f1.trans f2).trans f3) R3 (.lst upd_same (by omega) (hx.mono f3.same))
    · cases e4
/-- a comprehension in a def's context and in its block's -/
structure BlkP (X : Cx) (scope : Scope) (P : Cx → Prop) : Prop where
  all : ∀ (s : Shared) (H : Hp) (C : Addr) (cl : List (Str × Addr)) (fp : List Addr), P (X.blk s H scope (compEnvC scope cl C X.env) fp)
theorem ok_comp {elt tg iter : Expr} {ifs : List Expr} {scope : Scope} {own : List (Str × Nat)} {k : IK} {F : CallS} {its eifs : List E} {ee : E} {t : Tg} (g : Good G X W) (hi : PI X tg iter (RI G k (evEs F its) W)) (ok : BlkOk X.N X.env.scope scope own) (ht : ∀ i ∈ tgs t, i ∈ own.map (·.2))
    (hg : BlkP X scope fun X => PG X tg (GT G t)) (hts : BlkP X scope fun X => PTs X ifs (RT G (evTs F eifs) W0)) (he : BlkP X scope fun X => PE X elt (RE G (evE F ee) W0)) (hs : ∀ x, foldedSetIterable iter X.env x = pure x) :
    PE X (.ListComp elt [⟨tg, iter, ifs, 0⟩] scope pos) (RE G (evE F (.comp ee t k its eifs (own.map (·.2)))) W) :=
  PE.monoR (pe_lc g.calm g.nd hi ok hg.all hts.all he.all hs) (lc_sem ht)
/-- a clause's tests -/
theorem ok_ts0 {F : CallS} : PTs X [] (RT G (evTs F []) W) := by
  refine ⟨fun pins s σ H Q I q => pts_nil.run pins s σ H Q I ?_⟩
  obtain ⟨O, P, r, env, h, z, R, re, q, pv⟩ := q
  simp only [evTs] at q
  obtain ⟨b, e, q⟩ := fin pv q .refl R (.bl true)
  cases e
  exact q
theorem ok_ts1 {c : Expr} {ec : E} {F : CallS} (hc : PT X c (RT G (evE F ec) W)) : PTs X [c] (RT G (evTs F [ec]) W) := by
  refine ⟨fun pins s σ H Q I q => (pts_one hc).run pins s σ H Q I ?_⟩
  obtain ⟨O, P, r, env, h, z, R, re, q, pv⟩ := q
  simp only [evTs] at q
  exact ⟨O, P, r, env, h, z, R, re, q, pv⟩
end
end Ev
end

section
set_option Elab.async false
set_option linter.all false
set_option maxRecDepth 100000
set_option autoImplicit false
/-! statements -/
namespace Ev
open PySem PySem.Spec PyProof.Rows L2 RZ
def PVS (G : GI) (O P : Hp) (r : List Addr) (D : Ends) (W : XK) : Fl × Hq → Prop
  | (.nx env, h1) => ∀ (P1 : Hp) (r1 : List Addr) (H1 : Hp) (σ1 : L2.St), Fut P r P1 r1 → RelH G O P1 H1 r1 h1 → RelE G P1 r1 σ1 env → D.nx σ1 H1
  | (.brk env, h1) => ∀ (P1 : Hp) (r1 : List Addr) (H1 : Hp) (σ1 : L2.St), Fut P r P1 r1 → RelH G O P1 H1 r1 h1 → RelE G P1 r1 σ1 env → D.bk σ1 H1
  | (.cont env, h1) => ∀ (P1 : Hp) (r1 : List Addr) (H1 : Hp) (σ1 : L2.St), Fut P r P1 r1 → RelH G O P1 H1 r1 h1 → RelE G P1 r1 σ1 env → D.ct σ1 H1
  | (.ret v, h1) => ∀ (P1 : Hp) (r1 : List Addr) (H1 : Hp) (x : V), Fut P r P1 r1 → RelH G O P1 H1 r1 h1 → RepV G P1 r1 x v → D.rt x H1
  | (.exc c p, h1) => ∀ (P1 : Hp) (r1 : List Addr) (H1 : Hp) (d : Addr) (x : V), Fut P r P1 r1 → RelH G O P1 H1 r1 h1 → H1 d = some (.xd [(G.fld c, x)]) → Rp G.K P1 x p → W (.ref (G.exc c)) (some d) H1
def RS (G : GI) (ev : Env → Hq → SR) (W : XK) : TS := fun D σ H => ∃ (O P : Hp) (r : List Addr) (env : Env) (h : Hq) (z : Fl × Hq), RelH G O P H r h ∧ RelE G P r σ env ∧ ev env h = some z ∧ PVS G O P r D W z
section
variable {G : GI} {X : Cx} {W : XK} {pos : Pos} {O P0 : Hp} {r0 : List Addr}
theorem PVS.fut {P P1 : Hp} {r r1 : List Addr} {D : Ends} (a : Fut P r P1 r1) {z : Fl × Hq} (q : PVS G O P r D W z) : PVS G O P1 r1 D W z := by
  obtain ⟨z, h1⟩ := z
  cases z with
  | nx env => exact fun P2 r2 H1 x b => q P2 r2 H1 x (a.trans b)
  | brk env => exact fun P2 r2 H1 x b => q P2 r2 H1 x (a.trans b)
  | cont env => exact fun P2 r2 H1 x b => q P2 r2 H1 x (a.trans b)
  | ret v => exact fun P2 r2 H1 x b => q P2 r2 H1 x (a.trans b)
  | exc c p => exact fun P2 r2 H1 d x b => q P2 r2 H1 d x (a.trans b)
/-- a statement's first step -/
theorem goS {P H : Hp} {r : List Addr} {env : Env} {h : Hq} {σ : L2.St} {ea : Env → Hq → ER} {f : Val → Hq → SR} {z : Fl × Hq} {D : Ends} {S : VK} (R : RelH G O P H r h) (re : RelE G P r σ env) (q : sB (ea env h) f = some z) (pv : PVS G O P r D W z)
    (step : ∀ (P1 : Hp) (r1 : List Addr) (H1 : Hp) (x : V) (v : Val) (h1 : Hq), Fut P r P1 r1 → RelH G O P1 H1 r1 h1 → RepV G P1 r1 x v → f v h1 = some z → S x H1) : RE G ea W σ H S := by
  refine ⟨O, P, r, env, h, ?_⟩
  unfold sB at q
  split at q
  · rename_i v h1 he
    exact ⟨_, R, re, he, fun P1 r1 H1 x f R1 rv => step P1 r1 H1 x v h1 f R1 rv q⟩
  · rename_i c p h1 he
    cases q
    exact ⟨_, R, re, he, pv⟩
  · cases q
theorem goSA {P H : Hp} {r : List Addr} {env : Env} {h : Hq} {σ : L2.St} {ea : Env → Hq → AR} {f : List Val → Hq → SR} {z : Fl × Hq} {D : Ends} {S : List V → Hp → Prop} (R : RelH G O P H r h) (re : RelE G P r σ env) (q : sBA (ea env h) f = some z) (pv : PVS G O P r D W z)
    (step : ∀ (P1 : Hp) (r1 : List Addr) (H1 : Hp) (x : List V) (v : List Val) (h1 : Hq), Fut P r P1 r1 → RelH G O P1 H1 r1 h1 → RepL G P1 r1 x v → f v h1 = some z → S x H1) : RL G ea W σ H S := by
  refine ⟨O, P, r, env, h, ?_⟩
  unfold sBA at q
  split at q
  · rename_i v h1 he
    exact ⟨_, R, re, he, fun P1 r1 H1 x f R1 rv => step P1 r1 H1 x v h1 f R1 rv q⟩
  · rename_i c p h1 he
    cases q
    exact ⟨_, R, re, he, pv⟩
  · cases q
theorem finS {P P1 H : Hp} {r r1 : List Addr} {h : Hq} {D : Ends} {σ : L2.St} {env : Env} {z : Fl × Hq} (pv : PVS G O P r D W z) (e : some (Fl.nx env, h) = some z) (f : Fut P r P1 r1) (R : RelH G O P1 H r1 h) (re : RelE G P1 r1 σ env) : D.nx σ H := by
  cases e
  exact pv P1 r1 H σ f R re
theorem asg_core {t : Tg} {e : E} {F : CallS} {te : TE} (m : ∀ σ H Q, RE G (evE F e) W σ H Q → te σ H Q) (D : Ends) (σ : L2.St) (H : Hp) (q : RS G (evS F (.asg t e)) W D σ H) : tAsg te (GT G t) D σ H := by
  obtain ⟨O, P, r, env, h, z, R, re, q, pv⟩ := q
  simp only [evS] at q
  refine m _ _ _ (goS R re q pv fun P1 r1 H1 x v h1 f R1 rv e => ?_)
  split at e
  · rename_i env' e1
    exact ⟨O, P1, r1, env, h1, v, env', R1, re.fut f, rv, e1, fun σ' re' _ => finS pv e f R1 re'⟩
  · cases e
theorem ok_asg {tg : Expr} {t : Tg} {a : Expr} {e : E} {F : CallS} (ha : PE X a (RE G (evE F e) W)) (hg : PG X tg (GT G t)) (hs : swapsWithSole [tg] a pos.line X.env = pure false) (hw : swappedStores [tg] a X.env = pure none) (h1 : (assignEach [tg] X.env).map (·.2) = [assign tg X.env]) : PS X (.Assign [tg] a pos) (RS G (evS F (.asg t e)) W) :=
  PS.monoR (ps_asg ha hg hs hw h1) fun D σ H q => asg_core (fun _ _ _ q => q) D σ H q
theorem gname_of {i : Nat} {v : V} {σ : L2.St} {H : Hp} {Q : L2.St → Hp → Prop} (q : GT G (.nm i) v σ H Q) : gName i v σ H Q := by
  obtain ⟨O, P, r, env, h, v, env', R, re, rv, e, k⟩ := q
  have e' : some (env.set i (some v)) = some env' := by
    cases v with
    | d d => simpa only [asgV, asgT] using e
    | ref n => simpa only [asgV] using e
  cases e'
  exact k _ (re.set rv) (alike_set (by simp [tgs]))
/-- name = [..] on one line -/
theorem ok_setLc {i : Nat} {y : Str} {py : Pos} {elt tg iter : Expr} {ifs : List Expr} {scope : Scope} {own : List (Str × Nat)} {spos : Pos} {k : IK} {F : CallS} {its eifs : List E} {ee : E} {t : Tg} (g : Good G X W) (hy : X.N[i]? = some y) (hyl : X.env.scope.names.lookup y = some .local)
    (hsw : swapsWith (.ListComp elt [⟨tg, iter, ifs, 0⟩] scope pos) (some (.Name y py)) spos.line X.env = pure true) (hi : PI X tg iter (RI G k (evEs F its) W)) (ok : BlkOk X.N X.env.scope scope own) (ht : ∀ i ∈ tgs t, i ∈ own.map (·.2))
    (hg : BlkP X scope fun X => PG X tg (GT G t)) (hts : BlkP X scope fun X => PTs X ifs (RT G (evTs F eifs) W0)) (he : BlkP X scope fun X => PE X elt (RE G (evE F ee) W0)) (hs : ∀ x, foldedSetIterable iter X.env x = pure x) :
    PS X (.Assign [.Name y py] (.ListComp elt [⟨tg, iter, ifs, 0⟩] scope pos) spos) (RS G (evS F (.asg (.nm i) (.comp ee t k its eifs (own.map (·.2))))) W) := by
  refine PS.monoR (ps_setLc g.calm g.nd hy hyl hsw hi ok hg.all hts.all he.all hs) fun D σ H q => ?_
  have q2 := asg_core (fun σ H Q q => lc_sem ht σ H Q q) D σ H q
  show tLc _ _ _ _ _ σ H fun x H1 => gName i x σ H1 D.nx
  have q3 : tLc (RI G k (evEs F its) W) (GT G t) (RT G (evTs F eifs) W0) (RE G (evE F ee) W0) (own.map (·.2)) σ H fun x H1 => GT G (.nm i) x σ H1 D.nx := q2
  obtain ⟨O, P, r, env, h, z, R, re, e, pv⟩ := q3
  refine ⟨O, P, r, env, h, z, R, re, e, ?_⟩
  obtain ⟨z, h1⟩ := z
  cases z with
  | exc c p => exact pv
  | vals vs =>
    obtain ⟨src, items, e1, kk⟩ := pv
    refine ⟨src, items, e1, fun P1 r1 H1 f R1 J hJ A hA => ?_⟩
    obtain ⟨Wt, w0, turn⟩ := kk P1 r1 H1 f R1 J hJ A hA
    refine ⟨Wt, w0, fun i m H w => ?_⟩
    rcases turn i m H w with ⟨s1, s2⟩ | s
    · exact .inl ⟨s1, gname_of s2⟩
    · exact .inr s
theorem ok_expr {a : Expr} {e : E} {F : CallS} (ha : PE X a (RE G (evE F e) W)) (hs : swapsWith a none pos.line X.env = pure false) : PS X (.Expr a pos) (RS G (evS F (.expr e)) W) := by
  refine PS.monoR (ps_expr ha hs) fun D σ H q => ?_
  obtain ⟨O, P, r, env, h, z, R, re, q, pv⟩ := q
  simp only [evS] at q
  exact goS R re q pv fun P1 r1 H1 x v h1 f R1 rv e => finS pv e f R1 (re.fut f)
theorem ok_ret {a : Expr} {e : E} {F : CallS} (ha : PE X a (RE G (evE F e) W)) : PS X (.Return (some a) pos) (RS G (evS F (.ret e)) W) := by
  refine PS.monoR (ps_ret ha) fun D σ H q => ?_
  obtain ⟨O, P, r, env, h, z, R, re, q, pv⟩ := q
  simp only [evS] at q
  refine goS R re q pv fun P1 r1 H1 x v h1 f R1 rv e => ?_
  cases e
  exact pv P1 r1 H1 x f R1 rv
theorem ok_retN {F : CallS} : PS X (.Return none pos) (RS G (evS F .retN) W) := by
  refine PS.monoR ps_retN fun D σ H q => ?_
  obtain ⟨O, P, r, env, h, z, R, re, q, pv⟩ := q
  simp only [evS] at q
  cases q
  exact pv P r H .non .refl R .non
theorem ok_pass {F : CallS} : PS X (.Pass pos) (RS G (evS F .pass) W) := by
  refine PS.monoR ps_pass fun D σ H q => ?_
  obtain ⟨O, P, r, env, h, z, R, re, q, pv⟩ := q
  simp only [evS] at q
  exact finS pv q .refl R re
/-- a docstring -/
theorem ok_doc {x j pos' F} : PS X (.Expr (.Constant (.str x) j pos') pos) (RS G (evS F .pass) W) := by
  refine PS.monoR ps_doc fun D σ H q => ?_
  obtain ⟨O, P, r, env, h, z, R, re, q, pv⟩ := q
  simp only [evS] at q
  exact finS pv q .refl R re
theorem ok_brk {F : CallS} : PS X (.Break pos) (RS G (evS F .brk) W) := by
  refine PS.monoR ps_break fun D σ H q => ?_
  obtain ⟨O, P, r, env, h, z, R, re, q, pv⟩ := q
  simp only [evS] at q
  cases q
  exact pv P r H σ .refl R re
theorem ok_cont {F : CallS} : PS X (.Continue pos) (RS G (evS F .cont) W) := by
  refine PS.monoR ps_continue fun D σ H q => ?_
  obtain ⟨O, P, r, env, h, z, R, re, q, pv⟩ := q
  simp only [evS] at q
  cases q
  exact pv P r H σ .refl R re
theorem ok_snil {F : CallS} : PSs X [] (RS G (evSs F []) W) := by
  refine PSs.monoR pss_nil fun D σ H q => ?_
  obtain ⟨O, P, r, env, h, z, R, re, q, pv⟩ := q
  simp only [evSs] at q
  exact finS pv q .refl R re
theorem ok_scons {st : Stmt} {sts : List Stmt} {s : S} {ss : List S} {F : CallS} (h1 : PS X st (RS G (evS F s) W)) (h2 : PSs X sts (RS G (evSs F ss) W)) : PSs X (st :: sts) (RS G (evSs F (s :: ss)) W) := by
  refine PSs.monoR (pss_cons h1 h2) fun D σ H q => ?_
  obtain ⟨O, P, r, env, h, z, R, re, q, pv⟩ := q
  simp only [evSs] at q
  split at q
  · rename_i env' h1 e
    exact ⟨O, P, r, env, h, _, R, re, e, fun P1 r1 H1 σ1 f R1 re1 => ⟨O, P1, r1, env', h1, z, R1, re1, q, pv.fut f⟩⟩
  · rename_i hx
    refine ⟨O, P, r, env, h, z, R, re, q, ?_⟩
    obtain ⟨z, hz⟩ := z
    cases z with
    | nx env' => exact absurd q (hx env' hz)
    | brk env' => exact pv
    | cont env' => exact pv
    | ret v => exact pv
    | exc c p => exact pv
theorem ok_if {c : Expr} {a b : List Stmt} {ec : E} {sa sb : List S} {F : CallS} (hc : PT X c (RT G (evE F ec) W)) (ha : PSs X a (RS G (evSs F sa) W)) (hb : PSs X b (RS G (evSs F sb) W)) : PS X (.If c a b pos) (RS G (evS F (.if_ ec sa sb)) W) := by
  refine PS.monoR (ps_if hc ha hb) fun D σ H q => ?_
  obtain ⟨O, P, r, env, h, z, R, re, q, pv⟩ := q
  simp only [evS] at q
  refine goS R re q pv fun P1 r1 H1 x v h1 f R1 rv e => ?_
  split at e
  · cases rv
    exact ⟨true, rfl, iteT ⟨O, P1, r1, env, h1, z, R1, re.fut f, e, pv.fut f⟩⟩
  · cases rv
    exact ⟨false, rfl, iteF ⟨O, P1, r1, env, h1, z, R1, re.fut f, e, pv.fut f⟩⟩
  · cases e
end
end Ev
end

section
set_option Elab.async false
set_option linter.all false
set_option maxRecDepth 100000
set_option autoImplicit false
/-! loops, stores into lists -/
namespace Ev
open PySem PySem.Spec PyProof.Rows L2 RZ
section
variable {G : GI} {X : Cx} {W : XK} {pos : Pos} {O P0 : Hp} {r0 : List Addr}
theorem ok_for {tg iter : Expr} {body : List Stmt} {k : IK} {F : CallS} {its : List E} {t : Tg} {sb : List S} (g : Good G X W) (po : PassesOwn (model X.prog X.w) X.A X.env X.xe) (hi : PI X tg iter (RI G k (evEs F its) W)) (hg : PG X tg (GT G t)) (hb : PSs X body (RS G (evSs F sb) W)) (hs : ∀ x, foldedSetIterable iter X.env x = pure x) :
    PS X (.For tg iter body [] pos) (RS G (evS F (.for_ t k its sb)) W) := by
  refine PS.monoR (ps_for po g.calm hi hg hb hs) fun D σ H q => ?_
  obtain ⟨O, P, r, env, h, z, R, re, q, pv⟩ := q
  simp only [evS] at q
  unfold sBA at q
  show RI G k (evEs F its) W σ H _
  refine ⟨O, P, r, env, h, ?_⟩
  split at q
  rotate_left
  · rename_i c p h1 e1
    cases q
    exact ⟨_, R, re, e1, pv⟩
  · cases q
  rename_i vs h1 e1
  refine ⟨_, R, re, e1, ?_⟩
  dsimp only at q
  split at q
  rotate_left
  · cases q
  rename_i src items e2
  refine ⟨src, items, e2, fun P1 r1 H1 f1 R1 J hJ => ?_⟩
  refine ⟨fun i m σ H => m = items.length - i ∧ i ≤ items.length ∧ ∃ (P2 : Hp) (r2 : List Addr) (h2 : Hq) (env2 : Env), RelH G O P2 H r2 h2 ∧ Fut P1 r1 P2 r2 ∧ RelE G P2 r2 σ env2 ∧ loopF k src items.length t (evSs F sb) i (items.drop i) env2 h2 = some z,
    ⟨_, rfl, Nat.zero_le _, P1, r1, h1, env, R1, .refl, re.fut f1, by simpa using q⟩, ?_⟩
  rintro i m σ2 H2 ⟨rfl, hi, P2, r2, h2, env2, R2, f2, re2, e4⟩
  by_cases hlt : i < items.length
  · obtain ⟨x, hd, hx'⟩ := drop_cons hlt
    rw [hd] at e4
    simp only [loopF] at e4
    split at e4
    rotate_left
    · cases e4
    rename_i y hy
    obtain ⟨go, yl⟩ := hJ.go _ P2 H2 r2 h2 i x y f2 R2 hx' hy
    refine .inr ⟨go, fun σ H => ∃ (P2 : Hp) (r2 : List Addr) (h2 : Hq) (env2 : Env), RelH G O P2 H r2 h2 ∧ Fut P1 r1 P2 r2 ∧ RelE G P2 r2 σ env2 ∧ loopF k src items.length t (evSs F sb) (i + 1) (items.drop (i + 1)) env2 h2 = some z,
      fun σ' H' hH' => ⟨_, by omega, rfl, hlt, hH'⟩, fun v H3 hv => ?_⟩
    obtain ⟨P3, R3, f3, rv⟩ := yl v H3 hv
    split at e4
    rotate_left
    · cases e4
    rename_i env' ea
    have f13 := f2.trans f3
    refine ⟨_, P3, r2, env2, h2, .d y, env', R3, re2.fut f3, rv, by simpa only [asgV] using ea, fun σ' re' al => ?_⟩
    split at e4
    · rename_i e h4 ec
      exact ⟨_, P3, r2, env', h2, _, R3, re', ec, fun P5 r5 H5 σ5 f5 R5 re5 => ⟨P5, r5, h4, e, R5, f13.trans f5, re5, e4⟩⟩
    · rename_i e h4 ec
      exact ⟨_, P3, r2, env', h2, _, R3, re', ec, fun P5 r5 H5 σ5 f5 R5 re5 => ⟨P5, r5, h4, e, R5, f13.trans f5, re5, e4⟩⟩
    · rename_i e h4 ec
      cases e4
      exact ⟨_, P3, r2, env', h2, _, R3, re', ec, pv.fut (f1.trans f13)⟩
    · rename_i v4 h4 ec
      cases e4
      exact ⟨_, P3, r2, env', h2, _, R3, re', ec, pv.fut (f1.trans f13)⟩
    · rename_i c p h4 ec
      cases e4
      exact ⟨_, P3, r2, env', h2, _, R3, re', ec, pv.fut (f1.trans f13)⟩
    · cases e4
  · obtain rfl : i = items.length := by omega
    rw [List.drop_length] at e4
    simp only [loopF] at e4
    split at e4
    · rename_i he
      exact .inl ⟨hJ.stop _ P2 H2 r2 _ f2 R2 he, finS pv e4 (f1.trans f2) R2 re2⟩
    · cases e4
theorem ok_while {c : Expr} {body : List Stmt} {ec : E} {sb : List S} {F : CallS} (po : PassesOwn (model X.prog X.w) X.A X.env X.xe) (hc : PT X c (RT G (evE F ec) W)) (hb : PSs X body (RS G (evSs F sb) W)) : PS X (.While c body [] pos) (RS G (evS F (.while_ ec sb)) W) := by
  refine PS.monoR (ps_while po hc hb) fun D σ H q => ?_
  obtain ⟨O, P, r, env, h, z, R, re, q, pv⟩ := q
  simp only [evS] at q
  refine ⟨fun m σ H => ∃ (P2 : Hp) (r2 : List Addr) (h2 : Hq) (env2 : Env), RelH G O P2 H r2 h2 ∧ Fut P r P2 r2 ∧ RelE G P2 r2 σ env2 ∧ loopW (evE F ec) (evSs F sb) m env2 h2 = some z, ⟨WB, P, r, h, env, R, .refl, re, q⟩, ?_⟩
  rintro m σ2 H2 ⟨P2, r2, h2, env2, R2, f2, re2, e⟩
  cases m with
  | zero => simp [loopW] at e
  | succ m =>
    simp only [loopW] at e
    split at e
    · rename_i h0 e0
      refine ⟨_, P2, r2, env2, h2, _, R2, re2, e0, fun P3 r3 H3 x f3 R3 rv => ?_⟩
      cases rv
      refine ⟨true, rfl, iteT ⟨fun σ H => ∃ (P2 : Hp) (r2 : List Addr) (h2 : Hq) (env2 : Env), RelH G O P2 H r2 h2 ∧ Fut P r P2 r2 ∧ RelE G P2 r2 σ env2 ∧ loopW (evE F ec) (evSs F sb) m env2 h2 = some z, fun σ' H' hH' => ⟨m, Nat.lt_succ_self m, hH'⟩, ?_⟩⟩
      have f23 := f2.trans f3
      split at e
      · rename_i e' h4 ec
        exact ⟨_, P3, r3, env2, h0, _, R3, re2.fut f3, ec, fun P5 r5 H5 σ5 f5 R5 re5 => ⟨P5, r5, h4, e', R5, f23.trans f5, re5, e⟩⟩
      · rename_i e' h4 ec
        exact ⟨_, P3, r3, env2, h0, _, R3, re2.fut f3, ec, fun P5 r5 H5 σ5 f5 R5 re5 => ⟨P5, r5, h4, e', R5, f23.trans f5, re5, e⟩⟩
      · rename_i e' h4 ec
        cases e
        exact ⟨_, P3, r3, env2, h0, _, R3, re2.fut f3, ec, pv.fut f23⟩
      · rename_i v4 h4 ec
        cases e
        exact ⟨_, P3, r3, env2, h0, _, R3, re2.fut f3, ec, pv.fut f23⟩
      · rename_i c p h4 ec
        cases e
        exact ⟨_, P3, r3, env2, h0, _, R3, re2.fut f3, ec, pv.fut f23⟩
      · cases e
    · rename_i h0 e0
      refine ⟨_, P2, r2, env2, h2, _, R2, re2, e0, fun P3 r3 H3 x f3 R3 rv => ?_⟩
      cases rv
      exact ⟨false, rfl, iteF (finS pv e (f2.trans f3) R3 (re2.fut f3))⟩
    · rename_i c p h0 e0
      cases e
      exact ⟨_, P2, r2, env2, h2, _, R2, re2, e0, pv.fut f2⟩
    · cases e
theorem mulOk_C {i j : Int} (hj : mulOk i j = true) : IntMulOk i j := by
  rcases Bool.or_eq_true_iff.mp hj with h1 | h1
  · rcases Bool.or_eq_true_iff.mp h1 with h1 | h1
    · exact CMul.ok (.inl (smallI_ok h1))
    · exact CMul.ok (.inr (smallI_ok h1))
  · have h2 := of_decide_eq_true h1
    exact CMulW.ok (wide_mul (a := 4000) (b := 4000) h2.1 h2.2 (by decide) (by decide) (by decide))
def tAugI (o : B2) : TIp := fun x y H Q => ∃ i j z, x = .int i ∧ y = .int j ∧ augI o i j = some z ∧ Q (.int z) H
theorem ip_any {o : B2} {p : Operator} (hp : bop o = some p) : PIp X p (tAugI o) := by
  intro pins s σ H x y v u Q I r1 r2 h
  obtain ⟨i, j, z, rfl, rfl, e, q⟩ := h
  obtain ⟨t, rfl⟩ := r1
  obtain ⟨t', rfl⟩ := r2
  have fin : EP X pins σ Q (.int z s.toks) { s with toks := s.toks + 1 } := ⟨.int _, H, I.tok _, ⟨_, rfl⟩, q⟩
  cases o <;> simp only [bop, Option.some.injEq, reduceCtorEq, augI] at hp e <;> subst hp
  · cases e
    exact PyProof.Rows.iadd_int fin
  · cases e
    exact PyProof.Rows.isub_int fin
  · split at e
    · rename_i hm
      cases e
      exact PyProof.Rows.imul_int fin (mulOk_C hm)
    · cases e
  all_goals cases e
theorem ok_aug {i : Nat} {x : Str} {a : Expr} {e : E} {F : CallS} {o : B2} {p : Operator} {pos' : Pos} (g : Good G X W) (hp : bop o = some p) (hi : X.N[i]? = some x) (hx : Loc X.env.scope x) (hf : X.fn x = true ∨ X.env.scope.names.lookup x = some .local) (ha : PE X a (RE G (evE F e) W)) :
    PS X (.AugAssign (.Name x pos') p a pos) (RS G (evS F (.aug i o e)) W) := by
  refine PS.monoR (ps_aug g.nd hi hx ha (ip_any hp) hf) fun D σ H q => ?_
  obtain ⟨O, P, r, env, h, z, R, re, q, pv⟩ := q
  simp only [evS] at q
  split at q
  · rename_i n he
    obtain ⟨y, e1, e2⟩ := re.at_ i _ he
    cases e2
    refine ⟨_, e1, ?_⟩
    refine goS R re q pv fun P1 r1 H1 x v h1 f R1 rv e => ?_
    split at e
    · cases rv
      split at e
      · rename_i w hw
        exact ⟨n, _, w, rfl, rfl, hw, finS pv e f R1 ((re.fut f).set (.int _))⟩
      · cases e
    · cases e
  · cases q
/-- o[i] = e -/
theorem ok_setix {a b c : Expr} {ea eb ec : E} {F : CallS} {tp : Pos} (ha : PE X a (RE G (evE F ea) W)) (hb : PE X b (RE G (evE F eb) W)) (hc : PE X c (RE G (evE F ec) W)) (hs : swapsWithSole [.Subscript a b tp] c pos.line X.env = pure false) (hw : swappedStores [.Subscript a b tp] c X.env = pure none) (h1 : (assignEach [.Subscript a b tp] X.env).map (·.2) = [assign (.Subscript a b tp) X.env])
    (hg : ∀ v, assign (.Subscript a b tp) X.env v = (do
      let ov ← holding [v] (eval a X.env)
      let iv ← holding [v, ov] (eval b X.env)
      standAt tp
      holding [v, ov, iv] (setItem ov iv v)
      release [v, ov, iv] [])) : PS X (.Assign [.Subscript a b tp] c pos) (RS G (evS F (.setix ea eb ec)) W) := by
  refine PS.monoR (ps_asg hc (pg_sub ha hb set_list hg) hs hw h1) fun D σ H q => ?_
  obtain ⟨O, P, r, env, h, z, R, re, q, pv⟩ := q
  simp only [evS] at q
  refine goS R re q pv fun P1 r1 H1 x v h1 f R1 rv e => ?_
  refine goS R1 (re.fut f) e (pv.fut f) fun P2 r2 H2 y u h2 f2 R2 ru e => ?_
  refine goS R2 (re.fut (f.trans f2)) e (pv.fut (f.trans f2)) fun P3 r3 H3 w k h3 f3 R3 rk e => ?_
  split at e
  · rename_i d n k _ _
    cases rk
    split at e
    · rename_i xs hn
      split at e
      · rename_i j hj
        obtain ⟨l, rfl, hl⟩ := ru.fut f3
        obtain ⟨h0, zs, g1, g2, g3⟩ := R3.obj n l _ hl hn
        have rv3 : Rp G.K P3 x d := rv.fut (f2.trans f3)
        refine ⟨l, zs, k, j, rfl, rfl, g1, by rw [← hj, g3.length]; rfl, ?_⟩
        have R4 := R3.put hl hn (by rw [List.length_set]; exact g2) (g3.set j rv3)
        exact finS pv e ((f.trans f2).trans f3) R4 (re.fut ((f.trans f2).trans f3))
      · cases e
    · cases e
  · cases e
/-! methods of lists -/
theorem ixOf_seq {n : Nat} {i : Int} {k : Nat} (h : ixOf n i = some k) (hn : n ≤ sizeLine) : seqIndex? i n = some k ∧ -(2 ^ 63) ≤ i ∧ i < 2 ^ 63 := by
  obtain ⟨h1, h2, h3, h4⟩ := ixN_seq (show ixN n i = some k from h)
  have := sizeLine_eq
  exact ⟨h1, by omega, by omega⟩
theorem live_of {h : Hq} {v : Val} (e : isLive h v = true) : ∃ n xs, v = .ref n ∧ h[n]? = some (.lst xs) := by
  cases v with
  | d x => cases e
  | ref n =>
    simp only [isLive] at e
    split at e
    · exact ⟨n, _, rfl, by assumption⟩
    · cases e
theorem live_ty {P H : Hp} {r : List Addr} {h : Hq} {x : V} {v : Val} (R : RelH G O P H r h) (rv : RepV G P r x v) (e : isLive h v = true) : tyV G.K "list" x H := by
  obtain ⟨n, xs, rfl, hn⟩ := live_of e
  obtain ⟨a, rfl, ha⟩ := rv
  obtain ⟨_, zs, h1, _, _⟩ := R.obj n a _ ha hn
  exact .inl ⟨rfl, zs, .inl (.inl h1)⟩
theorem meth0_core {m : MK} {ea : E} {F : CallS} {rr : V → List V → Hp → VK → Prop} (g : Good G X W)
    (step : ∀ (O P H : Hp) (r : List Addr) (h : Hq) (x : V) (xs : List V) (v : Val) (vs : List Val) (z : Ev.R × Hq) (Q : VK), RelH G O P H r h → RepV G P r x v → RepL G P r xs vs → semM m v vs h = some z → PV G O P r Q W z → rr x xs H Q)
    (σ : L2.St) (H : Hp) (Q : VK) (q : RE G (evE F (.meth m ea [])) W σ H Q) : tBM0 X.K "list" rr (RE G (evE F ea) W) σ H Q := by
  obtain ⟨O, P, r, env, h, z, R, re, q, pv⟩ := q
  simp only [evE, evEs] at q
  refine go R re q pv fun P1 r1 H1 x v h1 f R1 rv e => ?_
  split at e
  · rename_i hl
    exact ⟨g.hK ▸ live_ty R1 rv hl, step O P1 H1 r1 h1 x [] v [] z Q R1 rv .nil e (pv.fut f)⟩
  · cases e
theorem meth_core {m : MK} {ea : E} {es : List E} {F : CallS} {rr : V → List V → Hp → VK → Prop} (g : Good G X W)
    (step : ∀ (O P H : Hp) (r : List Addr) (h : Hq) (x : V) (xs : List V) (v : Val) (vs : List Val) (z : Ev.R × Hq) (Q : VK), RelH G O P H r h → RepV G P r x v → RepL G P r xs vs → semM m v vs h = some z → PV G O P r Q W z → rr x xs H Q)
    (σ : L2.St) (H : Hp) (Q : VK) (q : RE G (evE F (.meth m ea es)) W σ H Q) : tBM X.K "list" rr (RE G (evE F ea) W) (RL G (evEs F es) W) σ H Q := by
  obtain ⟨O, P, r, env, h, z, R, re, q, pv⟩ := q
  simp only [evE] at q
  refine go R re q pv fun P1 r1 H1 x v h1 f R1 rv e => ?_
  split at e
  · rename_i hl
    refine ⟨g.hK ▸ live_ty R1 rv hl, ?_⟩
    refine goA R1 (re.fut f) e (pv.fut f) fun P2 r2 H2 xs vs h2 f2 R2 rl e => ?_
    exact step O P2 H2 r2 h2 x xs v vs z Q R2 (rv.fut f2) rl e (pv.fut (f.trans f2))
  · cases e
theorem step_append {P H : Hp} {r : List Addr} {h : Hq} {x : V} {xs : List V} {v : Val} {vs : List Val} {z : Ev.R × Hq} {Q : VK} (R : RelH G O P H r h) (rv : RepV G P r x v) (rl : RepL G P r xs vs) (e : semM .append v vs h = some z) (pv : PV G O P r Q W z) : rAppend x xs H Q := by
  cases v with
  | d y => simp [semM] at e
  | ref n =>
    cases rl with
    | nil => simp [semM] at e
    | @cons _ w _ _ ra rl =>
      cases w with
      | ref k => simp [semM] at e
      | d y =>
        cases rl with
        | cons rb rl => simp [semM] at e
        | nil =>
          simp only [semM] at e
          split at e
          · rename_i ds hn
            split at e
            · rename_i hl
              obtain ⟨a, rfl, ha⟩ := rv
              obtain ⟨h0, zs, g1, g2, g3⟩ := R.obj n a _ ha hn
              have hz : zs.length < sizeLine := by rw [g3.length, ← line_eq]; exact hl
              have R2 := R.put (ys := zs ++ [_]) ha hn (by rw [List.length_append]; exact hz) (g3.append (.cons ra .nil))
              exact ⟨a, zs, _, rfl, rfl, g1, hz, fin pv e .refl R2 .non⟩
            · cases e
          · cases e
theorem step_pop {P H : Hp} {r : List Addr} {h : Hq} {x : V} {xs : List V} {v : Val} {vs : List Val} {z : Ev.R × Hq} {Q : VK} (R : RelH G O P H r h) (rv : RepV G P r x v) (rl : RepL G P r xs vs) (e : semM .pop v vs h = some z) (pv : PV G O P r Q W z) : rPop x xs H Q := by
  cases v with
  | d y => simp [semM] at e
  | ref n =>
    cases rl with
    | cons ra rl => simp [semM] at e
    | nil =>
      simp only [semM] at e
      split at e
      · rename_i ds hn
        split at e
        · rename_i y hy
          obtain ⟨a, rfl, ha⟩ := rv
          obtain ⟨h0, zs, g1, g2, g3⟩ := R.obj n a _ ha hn
          obtain ⟨w, h1, h2⟩ := g3.get hy
          rw [← g3.length] at h1
          have R2 := R.put (ys := zs.dropLast) ha hn (by rw [List.length_dropLast]; omega) g3.dropLast
          exact ⟨a, zs, w, rfl, rfl, g1, h1, fin pv e .refl R2 h2⟩
        · cases e
      · cases e
theorem step_popAt {P H : Hp} {r : List Addr} {h : Hq} {x : V} {xs : List V} {v : Val} {vs : List Val} {z : Ev.R × Hq} {Q : VK} (R : RelH G O P H r h) (rv : RepV G P r x v) (rl : RepL G P r xs vs) (e : semM .popAt v vs h = some z) (pv : PV G O P r Q W z) : rPopAt x xs H Q := by
  cases v with
  | d y => simp [semM] at e
  | ref n =>
    cases rl with
    | nil => simp [semM] at e
    | @cons _ w _ _ ra rl =>
      cases w with
      | ref k => simp [semM] at e
      | d y =>
        cases rl with
        | cons rb rl => simp [semM] at e
        | nil =>
          cases ra with
          | int i =>
            simp only [semM] at e
            split at e
            · rename_i ds hn
              split at e
              · rename_i k hk
                split at e
                · rename_i y hy
                  obtain ⟨a, rfl, ha⟩ := rv
                  obtain ⟨h0, zs, g1, g2, g3⟩ := R.obj n a _ ha hn
                  obtain ⟨w, h1, h2⟩ := g3.get hy
                  have hk2 : ixOf zs.length i = some k := by rw [g3.length]; exact hk
                  obtain ⟨k1, k2, k3⟩ := ixOf_seq hk2 g2
                  have R2 := R.put (ys := zs.eraseIdx k) ha hn (by have := List.length_eraseIdx_le zs k; omega) (g3.erase k)
                  exact ⟨a, zs, i, k, w, rfl, rfl, g1, k2, k3, k1, h1, fin pv e .refl R2 h2⟩
                · cases e
              · cases e
            · cases e
          | _ => simp [semM] at e
theorem ok_append {o a : Expr} {eo ea : E} {apos cpos : Pos} {F : CallS} (g : Good G X W) (ho : PE X o (RE G (evE F eo) W)) (ha : PA X [a] (RL G (evEs F [ea]) W))
    (hbase : attributeBase o "append" X.env (eval o X.env) = eval o X.env) (hline : (apos.endLine == cpos.line) = true) (hs : starEach [a] X.env = (false, eval a X.env) :: starEach [] X.env) : PE X (.Call (.Attribute o "append" apos) [a] [] cpos) (RE G (evE F (.meth .append eo [ea])) W) :=
  PE.monoR (pe_bm PySem.F.plainAttrs_list PySem.F.slot_list_append PySem.F.type_list_append mt_append ho ha hbase (by rw [hs]; rfl) hline hs rfl) (meth_core g fun O P H r h x xs v vs z Q R rv rl e pv => step_append R rv rl e pv)
theorem ok_pop {o : Expr} {eo : E} {apos cpos : Pos} {F : CallS} (g : Good G X W) (ho : PE X o (RE G (evE F eo) W))
    (hbase : attributeBase o "pop" X.env (eval o X.env) = eval o X.env) (hline : (apos.endLine == cpos.line) = true) : PE X (.Call (.Attribute o "pop" apos) [] [] cpos) (RE G (evE F (.meth .pop eo [])) W) :=
  PE.monoR (pe_bm0 PySem.F.plainAttrs_list PySem.F.slot_list_pop PySem.F.type_list_pop mt_pop ho hbase hline) (meth0_core g fun O P H r h x xs v vs z Q R rv rl e pv => step_pop R rv rl e pv)
theorem ok_popAt {o a : Expr} {eo ea : E} {apos cpos : Pos} {F : CallS} (g : Good G X W) (ho : PE X o (RE G (evE F eo) W)) (ha : PA X [a] (RL G (evEs F [ea]) W))
    (hbase : attributeBase o "pop" X.env (eval o X.env) = eval o X.env) (hline : (apos.endLine == cpos.line) = true) (hs : starEach [a] X.env = (false, eval a X.env) :: starEach [] X.env) : PE X (.Call (.Attribute o "pop" apos) [a] [] cpos) (RE G (evE F (.meth .popAt eo [ea])) W) :=
  PE.monoR (pe_bm PySem.F.plainAttrs_list PySem.F.slot_list_pop PySem.F.type_list_pop mt_popAt ho ha hbase (by rw [hs]; rfl) hline hs rfl) (meth_core g fun O P H r h x xs v vs z Q R rv rl e pv => step_popAt R rv rl e pv)
/-! more things of the heap -/
/-- a list is data from now on -/
theorem ok_frz {a : Expr} {e : E} {F : CallS} (ha : PE X a (RE G (evE F e) W)) : PE X a (RE G (evE F (.frz e)) W) := by
  refine PE.monoR ha fun σ H Q q => ?_
  obtain ⟨O, P, r, env, h, z, R, re, q, pv⟩ := q
  simp only [evE] at q
  refine go R re q pv fun P1 r1 H1 x v h1 f R1 rv e => ?_
  cases v with
  | d y =>
    simp only [freeze] at e
    exact fin pv e f R1 rv
  | ref n =>
    simp only [freeze] at e
    split at e
    · rename_i xs hn
      obtain ⟨b, rfl, hb⟩ := rv
      obtain ⟨P2, R2, f2, rp⟩ := R1.stop hb hn
      exact fin pv e (f.trans f2) R2 rp
    · cases e
/-- list(..): a new list that may be changed -/
theorem ok_nlist {a : Expr} {e : E} {p : Pos} {F : CallS} (g : Good G X W) (hg : Gl X "list") (hm : X.mg "list" = none) (ha : PA X [a] (RL G (evEs F [e]) W)) (hs : starEach [a] X.env = (false, eval a X.env) :: starEach [] X.env) (pb : ∀ {r t}, CallR X (.type "list") r → PA X [a] t → PE X (.Call (.Name "list" p) [a] [] pos) (tCB r t)) : PE X (.Call (.Name "list" p) [a] [] pos) (RE G (evE F (.nlist e)) W) := by
  refine PE.monoR (pb call_list_of ha) fun σ H Q q => ?_
  obtain ⟨O, P, r, env, h, z, R, re, q, pv⟩ := q
  simp only [evE] at q
  show RL G (evEs F [e]) W σ H _
  refine ⟨O, P, r, env, h, ?_⟩
  simp only [evEs, consA]
  unfold bnd at q
  split at q
  · rename_i v h1 he
    refine ⟨_, R, re, rfl, fun P1 r1 H1 xs f R1 rl => ?_⟩
    dsimp only at q
    split at q
    · rename_i d hv
      split at q
      · rename_i ds hd
        cases rl with
        | cons rv t =>
          cases t
          obtain ⟨c, zs, rfl, hz, hx, kk⟩ := view_items R1 rv hv hd
          refine ⟨c, zs, rfl, ?_, fun l hl => ?_⟩
          · rcases kk with ⟨_, kk⟩ | ⟨_, kk⟩
            · exact .inl (g.hK ▸ kk)
            · exact .inr (g.hK ▸ kk)
          · obtain ⟨R2, f2⟩ := R1.newL hl hz hx
            exact fin pv q (f.trans f2) R2 ⟨l, rfl, new_at R1.len⟩
      · cases q
    · cases q
  · rename_i c p h1 he
    cases q
    exact ⟨_, R, re, rfl, pv⟩
  · cases q
/-- a, b = x, y -/
theorem ok_par2 {i j : Nat} {x y : Str} {a b : Expr} {es : List E} {px py pt : Pos} {kt k2 pt2} {F : CallS} (g : Good G X W) (hi : X.N[i]? = some x) (hj : X.N[j]? = some y) (hij : i ≠ j)
    (hx : X.env.scope.names.lookup x = some .local) (hy : X.env.scope.names.lookup y = some .local) (ha : PA X [a, b] (RL G (evEs F es) W))
    (hw : swappedStores [.Tuple [.Name x px, .Name y py] kt pt] (.Tuple [a, b] k2 pt2) X.env = pure (some [x, y]))
    (hs : swapsWithSole [.Tuple [.Name x px, .Name y py] kt pt] (.Tuple [a, b] k2 pt2) pos.line X.env = pure false) :
    PS X (.Assign [.Tuple [.Name x px, .Name y py] kt pt] (.Tuple [a, b] k2 pt2) pos) (RS G (evS F (.par [i, j] es)) W) := by
  refine PS.monoR (ps_par g.calm g.nd hi hj hij hx hy ha hw hs) fun D σ H q => ?_
  obtain ⟨O, P, r, env, h, z, R, re, q, pv⟩ := q
  simp only [evS] at q
  refine goSA R re q pv fun P1 r1 H1 xs vs h1 f R1 rl e => ?_
  split at e
  · rename_i env' e1
    cases rl with
    | nil => simp [setAll] at e1
    | cons ra rl =>
      cases rl with
      | nil => simp [setAll] at e1
      | cons rb rl =>
        cases rl with
        | cons rc rl => simp [setAll] at e1
        | nil =>
          simp only [setAll] at e1
          cases e1
          exact ⟨_, _, rfl, finS pv e f R1 (((re.fut f).set ra).set rb)⟩
  · cases e
theorem ok_par3 {i j l : Nat} {x y w : Str} {a b c : Expr} {es : List E} {px py pw pt : Pos} {kt k2 pt2} {F : CallS} (g : Good G X W) (hi : X.N[i]? = some x) (hj : X.N[j]? = some y) (hl : X.N[l]? = some w) (hij : i ≠ j) (hil : i ≠ l) (hjl : j ≠ l)
    (hx : X.env.scope.names.lookup x = some .local) (hy : X.env.scope.names.lookup y = some .local) (hz : X.env.scope.names.lookup w = some .local) (ha : PA X [a, b, c] (RL G (evEs F es) W))
    (hw : swappedStores [.Tuple [.Name x px, .Name y py, .Name w pw] kt pt] (.Tuple [a, b, c] k2 pt2) X.env = pure (some [x, y, w]))
    (hs : swapsWithSole [.Tuple [.Name x px, .Name y py, .Name w pw] kt pt] (.Tuple [a, b, c] k2 pt2) pos.line X.env = pure false) :
    PS X (.Assign [.Tuple [.Name x px, .Name y py, .Name w pw] kt pt] (.Tuple [a, b, c] k2 pt2) pos) (RS G (evS F (.par [i, j, l] es)) W) := by
  refine PS.monoR (ps_par3 g.calm g.nd hi hj hl hij hil hjl hx hy hz ha hw hs) fun D σ H q => ?_
  obtain ⟨O, P, r, env, h, z, R, re, q, pv⟩ := q
  simp only [evS] at q
  refine goSA R re q pv fun P1 r1 H1 xs vs h1 f R1 rl e => ?_
  split at e
  · rename_i env' e1
    cases rl with
    | nil => simp [setAll] at e1
    | cons ra rl =>
      cases rl with
      | nil => simp [setAll] at e1
      | cons rb rl =>
        cases rl with
        | nil => simp [setAll] at e1
        | cons rc rl =>
          cases rl with
          | cons rd rl => simp [setAll] at e1
          | nil =>
            simp only [setAll] at e1
            cases e1
            exact ⟨_, _, _, rfl, finS pv e f R1 ((((re.fut f).set ra).set rb).set rc)⟩
  · cases e
/-! several names, a tuple that is unpacked -/
def GNs (G : GI) (is : List Nat) : TGs := fun xs σ H Q => ∃ (O P : Hp) (r : List Addr) (env : Env) (h : Hq) (vs : List Val) (env' : Env), RelH G O P H r h ∧ RelE G P r σ env ∧ RepL G P r xs vs ∧ setAll env is vs = some env' ∧ ∀ σ', RelE G P r σ' env' → Q σ' H
/-- names, as targets -/
inductive NmL (X : Cx) : List Nat → List Expr → Prop
  | nil : NmL X [] []
  | cons {i : Nat} {is : List Nat} {x : Str} {p : Pos} {es : List Expr} : X.N[i]? = some x → L2.Loc X.env.scope x → (X.fn x = true ∨ X.env.scope.names.lookup x = some .local) → NmL X is es → NmL X (i :: is) (.Name x p :: es)
theorem ok_gns (g : Good G X W) : ∀ {is : List Nat} {es : List Expr}, NmL X is es → PGs X es (GNs G is)
  | _, _, .nil => by
    refine PGs.monoR pgs_nil fun xs σ H Q q => ?_
    obtain ⟨O, P, r, env, h, vs, env', R, re, rv, e, k⟩ := q
    cases rv with
    | nil =>
      simp only [setAll] at e
      cases e
      exact ⟨rfl, k _ re⟩
    | cons a b => simp [setAll] at e
  | _, _, .cons (i := i) (is := is) hi hx hf t => by
    refine PGs.monoR (pgs_cons (pg_name g.nd hi hx hf) (ok_gns g t) rfl) fun xs σ H Q q => ?_
    obtain ⟨O, P, r, env, h, vs, env', R, re, rv, e, k⟩ := q
    cases rv with
    | nil => simp [setAll] at e
    | cons a b =>
      simp only [setAll] at e
      exact ⟨_, _, rfl, O, P, r, _, h, _, env', R, re.set a, b, e, k⟩
theorem NmL.nst : ∀ {is : List Nat} {es : List Expr}, NmL X is es → (assignEach es X.env).length = is.length ∧ (assignEach es X.env).findIdx? (·.1) = none
  | _, _, .nil => ⟨rfl, rfl⟩
  | _, _, .cons (x := x) (p := p) (es := es) _ _ _ t => by
    obtain ⟨h1, h2⟩ := t.nst
    have e : assignEach (.Name x p :: es) X.env = (false, assign (.Name x p) X.env) :: assignEach es X.env := rfl
    rw [e]
    refine ⟨by simp [h1], ?_⟩
    rw [List.findIdx?_cons]
    simp [h2]
theorem setAll_len : ∀ {is : List Nat} {vs : List Val} {env env' : Env}, setAll env is vs = some env' → vs.length = is.length
  | [], [], _, _, _ => rfl
  | [], _ :: _, _, _, e => by simp [setAll] at e
  | _ :: _, [], _, _, e => by simp [setAll] at e
  | i :: is, v :: vs, env, env', e => by
    simp only [setAll] at e
    simp only [List.length_cons, setAll_len e]
theorem ok_unp {is : List Nat} {ts as : List Expr} {es : List E} {kt k2 : Nat} {pt pt2 : Pos} {F : CallS} (g : Good G X W) (hn : NmL X is ts) (ha : PA X as (RL G (evEs F es) W))
    (hw : swappedStores [.Tuple ts kt pt] (.Tuple as k2 pt2) X.env = pure none) : PS X (.Assign [.Tuple ts kt pt] (.Tuple as k2 pt2) pos) (RS G (evS F (.unp is es)) W) := by
  obtain ⟨n1, n2⟩ := hn.nst
  refine PS.monoR (ps_asg (pe_tup ha) (pg_tup g.calm (ok_gns g hn) n1 n2) rfl hw rfl) fun D σ H q => ?_
  obtain ⟨O, P, r, env, h, z, R, re, q, pv⟩ := q
  simp only [evS] at q
  refine goSA R re q pv fun P1 r1 H1 xs vs h1 f R1 rl e => ?_
  split at e
  · rename_i env' e1
    split at e
    · rename_i hl
      refine ⟨by rw [rl.length, ← line_eq]; exact hl, fun p hp => ?_⟩
      obtain ⟨R2, f2⟩ := R1.newP (o := .tup xs) hp (fun ps z => by cases z)
      exact ⟨p, xs, rfl, .inl (.inl upd_same), rl.length.trans (setAll_len e1), O, _, r1, env, h1, vs, env', R2, re.fut (f.trans f2), rl.fut f2, e1, fun σ' re' => finS pv e (f.trans f2) R2 re'⟩
    · cases e
  · cases e
end
end Ev
end

section
set_option Elab.async false
set_option linter.all false
set_option maxRecDepth 100000
set_option autoImplicit false
/-! calls -/
namespace Ev
open PySem PySem.Spec PyProof.Rows L2 RZ
/-- what a def promises: it gives what callF says -/
def spF (G : GI) (F : CallS) (f : Nat) : Sp := fun vs H Q E => ∃ (O P : Hp) (r : List Addr) (args : List Val) (h : Hq) (z : Ev.R × Hq), RelH G O P H r h ∧ RepL G P r vs args ∧ F f args h = some z ∧ PV G O P r Q E z
section
variable {G : GI} {X : Cx} {W : XK} {pos : Pos} {O P0 : Hp} {r0 : List Addr}
variable {F : CallS} {f lv : Nat} {a : Addr} {fd : FuncData} {ps : List Str} {x : Str} {p : Pos}
theorem call_core {es : List E} (σ : L2.St) (H : Hp) (Q : VK) (q : RE G (evE F (.call f es)) W σ H Q) : tCall (spF G F f) [] W (RL G (evEs F es) W) σ H Q := by
  obtain ⟨O, P, r, env, h, z, R, re, q, pv⟩ := q
  simp only [evE] at q
  refine goA R re q pv fun P1 r1 H1 xs vs h1 f R1 rl e => ?_
  rw [List.append_nil]
  exact ⟨O, P1, r1, vs, h1, z, R1, rl, e, pv.fut f⟩
theorem ok_call {e : Expr} {es : List Expr} {ees : List E} (g : Good G X W) (FO : FnOk X.prog X.w X.K X.mg X.base (L2.CX X.prog X.w) lv a fd ps (spF G F f)) (hr : Room lv X.A) (hg : Gl X x) (hm : X.mg x = some (.ref a)) (hk : PySem.W.keepIn X.K (.ref a) = true) (hb : L2.Binds X.K fd ps [])
    (ha : PA X (e :: es) (RL G (evEs F ees) W)) (hdb : (x == ("__debug__" : Str)) = false) (he : starEach (e :: es) X.env = (false, eval e X.env) :: starEach es X.env) (hpl : (backTo pos (starEach es X.env)).any (·.1) = false) : PE X (.Call (.Name x p) (e :: es) [] pos) (RE G (evE F (.call f ees)) W) :=
  PE.monoR (pe_call (dvs := []) (ds := []) (E := W) FO hr hg hm hk hb .nil (passes_call g.tk fun _ _ _ _ h => h) ha hdb he hpl) call_core
theorem ok_call0 (g : Good G X W) (FO : FnOk X.prog X.w X.K X.mg X.base (L2.CX X.prog X.w) lv a fd ps (spF G F f)) (hr : Room lv X.A) (hg : Gl X x) (hm : X.mg x = some (.ref a)) (hk : PySem.W.keepIn X.K (.ref a) = true) (hb : L2.Binds X.K fd ps [])
    (hdb : (x == ("__debug__" : Str)) = false) : PE X (.Call (.Name x p) [] [] pos) (RE G (evE F (.call f [])) W) := by
  refine PE.monoR (pe_call0 (dvs := []) (ds := []) (E := W) FO hr hg hm hk hb .nil (passes_call g.tk fun _ _ _ _ h => h) hdb) fun σ H Q q => ?_
  have q2 := call_core σ H Q q
  obtain ⟨O, P, r, env, h, z, R, re, q, pv⟩ := q2
  simp only [evEs] at q
  cases q
  exact pv P r H [] .refl R .nil
/-- in another order -/
def permL {α : Type} (xs : List α) : List Nat → List α
  | [] => []
  | i :: is => (match xs[i]? with
    | some x => x :: permL xs is
    | none => permL xs is)
theorem RepL.getR {P : Hp} {r : List Addr} : ∀ {xs : List V} {vs : List Val} {i : Nat} {v : Val}, RepL G P r xs vs → vs[i]? = some v → ∃ x, xs[i]? = some x ∧ RepV G P r x v
  | _, _, _, _, .nil, h => by simp at h
  | _, _, 0, _, .cons a b, h => by
    simp only [List.getElem?_cons_zero, Option.some.injEq] at h ⊢
    exact ⟨_, rfl, h ▸ a⟩
  | _, _, i + 1, _, .cons a b, h => by
    simp only [List.getElem?_cons_succ] at h ⊢
    exact RepL.getR b h
theorem perm_rep {P : Hp} {r : List Addr} {xs : List V} {vs : List Val} (h : RepL G P r xs vs) : ∀ {is : List Nat} {us : List Val}, permV vs is = some us → RepL G P r (permL xs is) us
  | [], us, e => by
    simp only [permV, Option.some.injEq] at e
    subst e
    exact .nil
  | i :: is, us, e => by
    simp only [permV] at e
    split at e
    · rename_i v hv
      split at e
      · rename_i ws hw
        cases e
        obtain ⟨y, hy, ry⟩ := RepL.getR h hv
        simp only [permL, hy]
        exact .cons ry (perm_rep (us := ws) h hw)
      · cases e
    · cases e
theorem RepL.append {P : Hp} {r : List Addr} {xs ys : List V} {vs ws : List Val} (h : RepL G P r xs vs) (k : RepL G P r ys ws) : RepL G P r (xs ++ ys) (vs ++ ws) := by
  induction h with
  | nil => exact k
  | cons a t ih => exact .cons a ih
theorem vals_perm {vs : List V} {us : List Value} (h : Vals vs us) : ∀ is : List Nat, Vals (permL vs is) (permL us is)
  | [] => .nil
  | i :: is => by
    have ih := vals_perm h is
    simp only [permL]
    cases e : vs[i]? with
    | some v =>
      obtain ⟨u, hu, ru⟩ := h.get e
      simp only [hu]
      exact .cons ru ih
    | none =>
      have hl : vs.length ≤ i := List.getElem?_eq_none_iff.mp e
      have hu : us[i]? = none := List.getElem?_eq_none (by rw [← h.length]; exact hl)
      simp only [hu]
      exact ih
/-- how a call with keywords binds -/
structure KwOk (K : PySem.W.Frag) (fd : FuncData) (ps : List Str) (n : Nat) (ks : List Str) (perm : List Nat) : Prop where
  to : ∀ (s : Shared) (us ws : List Value), K.In s.heap → us.length = n → ws.length = ks.length → BindsTo s fd ⟨us, ks.zip ws⟩ (ps.zip (permL (us ++ ws) perm))
theorem KwOk.kbn {K : PySem.W.Frag} {fd : FuncData} {ps : List Str} {n : Nat} {ks : List Str} {perm : List Nat} (h : KwOk K fd ps n ks perm) : KBn K fd ps n ks (fun us ws => permL (us ++ ws) perm) (fun us ws => permL (us ++ ws) perm) :=
  ⟨h.to, fun a b => vals_perm (a.append b) perm⟩
theorem PK.monoR {X : Cx} {e : List Keyword} {t t' : TA} (p : PK X e t) (m : ∀ σ H Q, t' σ H Q → t σ H Q) : PK X e t' := ⟨fun pos pins s σ H Q I q => p.run pos pins s σ H Q I (m _ _ _ q)⟩
theorem ok_knil : PK X [] (RL G (evEs F []) W) := by
  refine PK.monoR pk_nil fun σ H Q q => ?_
  obtain ⟨O, P, r, env, h, z, R, e, q, pv⟩ := q
  simp only [evEs] at q
  cases q
  exact pv P r H [] .refl R .nil
theorem ok_kcons {a : Expr} {kws : List Keyword} {e : E} {es : List E} {nm : Option Str} {kp : Pos} (ha : PE X a (RE G (evE F e) W)) (has : PK X kws (RL G (evEs F es) W)) : PK X (⟨nm, a, kp⟩ :: kws) (RL G (evEs F (e :: es)) W) := by
  refine PK.monoR (pk_cons ha has) fun σ H Q q => ?_
  obtain ⟨O, P, r, env, h, z, R, he, q, pv⟩ := q
  simp only [evEs] at q
  unfold consA at q
  split at q
  · rename_i v h1 e1
    refine ⟨O, P, r, env, h, _, R, he, e1, fun P1 r1 H1 x f1 R1 rv => ?_⟩
    split at q
    · rename_i vs h2 e2
      cases q
      refine ⟨O, P1, r1, env, h1, _, R1, he.fut f1, e2, fun P2 r2 H2 xs f2 R2 rvs => ?_⟩
      exact pv P2 r2 H2 (x :: xs) (f1.trans f2) R2 (.cons (rv.fut f2) rvs)
    · rename_i c p h2 e2
      cases q
      exact ⟨O, P1, r1, env, h1, _, R1, he.fut f1, e2, fun P2 r2 H2 d x f2 => pv P2 r2 H2 d x (f1.trans f2)⟩
    · cases q
  · rename_i c p h1 e1
    cases q
    exact ⟨O, P, r, env, h, _, R, he, e1, pv⟩
  · cases q
/-- goA, with the count of the values -/
theorem goAl {P H : Hp} {r : List Addr} {env : Env} {h : Hq} {σ : L2.St} {es : List E} {f : List Val → Hq → ER} {z : Ev.R × Hq} {Q : VK} {S : List V → Hp → Prop} (R : RelH G O P H r h) (re : RelE G P r σ env) (q : bndA (evEs F es env h) f = some z) (pv : PV G O P r Q W z)
    (step : ∀ (P1 : Hp) (r1 : List Addr) (H1 : Hp) (x : List V) (v : List Val) (h1 : Hq), x.length = es.length → Fut P r P1 r1 → RelH G O P1 H1 r1 h1 → RepL G P1 r1 x v → f v h1 = some z → S x H1) : RL G (evEs F es) W σ H S := by
  refine ⟨O, P, r, env, h, ?_⟩
  unfold bndA at q
  split at q
  · rename_i v h1 he
    exact ⟨_, R, re, he, fun P1 r1 H1 x f R1 rv => step P1 r1 H1 x v h1 (rv.length.trans (evEs_len he)) f R1 rv q⟩
  · rename_i c p h1 he
    cases q
    exact ⟨_, R, re, he, pv⟩
  · cases q
theorem callk_core {es ks : List E} {perm : List Nat} {n m : Nat} (hn : es.length = n) (hm : ks.length = m) (σ : L2.St) (H : Hp) (Q : VK) (q : RE G (evE F (.callk f es ks perm)) W σ H Q) : tCallN n m (spF G F f) (fun us ws => permL (us ++ ws) perm) W (RL G (evEs F es) W) (RL G (evEs F ks) W) σ H Q := by
  obtain ⟨O, P, r, env, h, z, R, re, q, pv⟩ := q
  simp only [evE] at q
  refine goAl R re q pv fun P1 r1 H1 xs vs h1 l1 f1 R1 rl e => ?_
  refine goAl R1 (re.fut f1) e (pv.fut f1) fun P2 r2 H2 ys ws h2 l2 f2 R2 rk e => ?_
  refine ⟨l1.trans hn, l2.trans hm, ?_⟩
  split at e
  · rename_i us hu
    exact ⟨O, P2, r2, us, h2, z, R2, perm_rep ((rl.fut f2).append rk) hu, e, pv.fut (f1.trans f2)⟩
  · cases e
theorem ok_callk {e : Expr} {es : List Expr} {kws : List Keyword} {ees eks : List E} {n : Nat} {ks : List Str} {perm : List Nat} (g : Good G X W) (FO : FnOk X.prog X.w X.K X.mg X.base (L2.CX X.prog X.w) lv a fd ps (spF G F f)) (hr : Room lv X.A) (hg : Gl X x) (hm : X.mg x = some (.ref a)) (hk : PySem.W.keepIn X.K (.ref a) = true) (hb : KwOk X.K fd ps n ks perm)
    (ha : PA X (e :: es) (RL G (evEs F ees) W)) (hkw : PK X kws (RL G (evEs F eks) W)) (hn : ees.length = n) (hn2 : eks.length = ks.length) (hall : (backToKw pos (keywordEach kws X.env)).all (·.1.isSome) = true) (hks : (backToKw pos (keywordEach kws X.env)).filterMap (·.1) = ks)
    (hdb : (x == ("__debug__" : Str)) = false) (he : starEach (e :: es) X.env = (false, eval e X.env) :: starEach es X.env)
    (hpl : ((backTo pos (starEach (e :: es) X.env)).any (·.1) || (backToKw pos (keywordEach kws X.env)).any (·.1.isNone)) = false) : PE X (.Call (.Name x p) (e :: es) kws pos) (RE G (evE F (.callk f ees eks perm)) W) :=
  PE.monoR (pe_callN (E := W) FO hr hg hm hk hb.kbn (passes_call g.tk fun _ _ _ _ h => h) ha hkw hall hks hdb he hpl) (callk_core hn hn2)
theorem ok_callk0 {kws : List Keyword} {eks : List E} {ks : List Str} {perm : List Nat} (g : Good G X W) (FO : FnOk X.prog X.w X.K X.mg X.base (L2.CX X.prog X.w) lv a fd ps (spF G F f)) (hr : Room lv X.A) (hg : Gl X x) (hm : X.mg x = some (.ref a)) (hk : PySem.W.keepIn X.K (.ref a) = true) (hb : KwOk X.K fd ps 0 ks perm)
    (hkw : PK X kws (RL G (evEs F eks) W)) (hn2 : eks.length = ks.length) (hall : (backToKw pos (keywordEach kws X.env)).all (·.1.isSome) = true) (hks : (backToKw pos (keywordEach kws X.env)).filterMap (·.1) = ks)
    (hdb : (x == ("__debug__" : Str)) = false) (hpl : ((backTo pos (starEach [] X.env)).any (·.1) || (backToKw pos (keywordEach kws X.env)).any (·.1.isNone)) = false) : PE X (.Call (.Name x p) [] kws pos) (RE G (evE F (.callk f [] eks perm)) W) := by
  refine ⟨fun pins s σ H Q I h => ?_⟩
  obtain ⟨O, P, r, env, hh, z, R, re, q, pv⟩ := callk_core (n := 0) (m := ks.length) rfl hn2 σ H Q h
  simp only [evEs] at q
  cases q
  obtain h2 := pv P r H [] .refl R .nil
  refine wpAny_Call_Name_kw (ld_glob I hg hm ?_ hdb)
  refine PySem.W.callWith_KW0 (h₀ := X.base) I.ok.mod.kin hk hall (thn (hkw.run pos pins s σ H _ I h2) fun ws s2 ⟨zs, H2, I2, rz, l1, l2, q2⟩ => ⟨I2.kIn, ?_⟩) hpl
  rw [hks]
  exact run_fnN FO hr hb.kbn (passes_call g.tk fun _ _ _ _ h => h) I2 .nil rz l1 l2 q2
end
end Ev
end

section
set_option Elab.async false
set_option linter.all false
set_option maxRecDepth 100000
set_option autoImplicit false
/-! an own exception whose __init__ says super().__init__(x); self.f = x, its chain of bases ending at ValueError -/
namespace PySem
namespace OwnX
open PySem.W PySem.Calls PyProof.Rows PySem.HandSPX
/-- the body of __init__ -/
def iB (f : Str) (p0 p1 p2 p3 p4 p5 q1 q2 q3 q4 : Pos) : List Stmt :=
  [.Expr (.Call (.Attribute (.Call (.Name "super" p0) [] [] p1) "__init__" p2) [.Name f p3] [] p4) p5, .Assign [.Attribute (.Name "self" q1) f q2] (.Name f q3) q4]
/-- the written part about the class x at C -/
structure OwnTxt (P : Program) (K : Frag) (mg : Str → Option Value) (x f : Str) (C fI : Addr) : Prop where
  gC : mg x = some (.ref C)
  cls : ∃ nm q N bs bm sn sub ab col dd k0 k1 k2 k3 k5, K.lookup C = some (excClassObj nm q C N bs bm true sn sub ab col dd k0 k1 k2 k3 k5 "ValueError.__new__") ∧ refsVE bm = true ∧ alongIn K "__init__" bm = some (some (.builtin "ValueError.__init__"))
  sa : findIn K (.ref C) "__setattr__" = some (some (.builtin "object.__setattr__"))
  noN : findIn K (.ref C) f = some none
  iC : findIn K (.ref C) "__init__" = some (some (.ref fI))
  tC : typeIn K (.ref fI) = some (.type "function")
  kC : keepIn K (.ref C) = true
  exC : subIn K (.ref C) (.type "BaseException") = some true
  veC : subIn K (.ref C) (.type "ValueError") = some true
  opq : nsIn K cStatics "thirdparty.any" = some none
  tyC : typeIn K (.ref C) = some (.type "type")
  sup : mg "super" = none
  top : (P.main.scope.names.lookup ("super" : Str)).isSome = false
  fn : ∃ (oc : Value) (od : Option Addr) (osl : Array (Option Value)) (nm q : Str) (a1 a2 : Arg) (scope : Scope) (cc cda : Addr) (kV doc pm ct : Value) (an : Option Addr) (p0 p1 p2 p3 p4 p5 q1 q2 q3 q4 : Pos) (vs : Array Value) (file : Str) (tf : Tok) (c1 c2 : Value) (d1 d2 : Option Addr) (s1 s2 : Array (Option Value)),
    K.lookup fI = some ⟨oc, od, .func (fnX nm q { posonlyargs := [], args := [a1, a2], vararg := none, kwonlyargs := [], kw_defaults := [], kwarg := none, defaults := [] } (iB f p0 p1 p2 p3 p4 p5 q1 q2 q3 q4) scope [("__class__", cc)] .none kV doc pm an (.ref cda) ct), osl⟩ ∧
    codeIn K (.ref cda) q = true ∧ (p2.endLine == p4.line) = true ∧ a1.arg = "self" ∧ a2.arg = f ∧ K.lookup cda = some ⟨c1, d1, .fields vs, s1⟩ ∧ vs[2]? = some (.str file tf) ∧ ((P.main.file : Str) == file) = true ∧ K.lookup cc = some ⟨c2, d2, .cell (some (.ref C)), s2⟩ ∧
    scope.kind = .function ∧ scope.isCoroutine = false ∧ scope.isGenerator = false ∧ (∀ y ∈ scope.names, y.2 ≠ .cell) ∧ scope.names.lookup ("self" : Str) = some .local ∧ scope.names.lookup f = some .local ∧ scope.names.lookup ("super" : Str) = some .globalImplicit ∧ scope.names.lookup ("__class__" : Str) = some .free
  fin : f = "name" ∨ f = "word" ∨ f = "line"
/-- what __init__ leaves of a fresh exception at x -/
structure InitEnd (f : Str) (h h' : Heap) (x C dx t1 : Addr) (v : Value) : Prop where
  keep : ∀ b o, b ≠ x → h.get? b = some o → h'.get? b = some o
  obj : h'.get? x = some { cls := .ref C, dict := some dx, data := .fields #[.ref t1, .none, .none, .none, .bool false, .none] }
  dbig : h.objs.size ≤ dx
  dne : dx ≠ x
  ns : h'.Ns1 dx (fun y => if y = f then some v else none)
/-- a made one -/
structure OwnMade (f : Str) (h h' : Heap) (e C d : Addr) (v : Value) : Prop where
  keep : ∀ b o, h.get? b = some o → h'.get? b = some o
  new : h.objs.size ≤ e
  obj : ∃ oe vs, h'.get? e = some oe ∧ oe.cls = .ref C ∧ oe.dict = some d ∧ oe.data = .fields vs ∧ vs[1]? = some .none
  dbig : h.objs.size ≤ d
  dne : d ≠ e
  ns : h'.Ns1 d (fun y => if y = f then some v else none)
section
variable {prog : Program} {w : World} {A : Around} {E : Value → Shared → Prop} {h : Heap} {g : Array GenState} {d : Drawn} {t : Nat} {os : OsState}
variable {nm q : Str} {C N : Addr} {bs bm : List Value} {hdct : Bool} {sn : List Str} {sub : List Value} {ab : Bool} {col : Option Bool} {dd : Option Addr} {k0 k1 k2 k3 k5 : Option Value}
/-- ValueError.__init__, bound, called -/
theorem call_mw {u e t0 : Addr} {rest : List Value} {Q : Value → Shared → Prop}
    (hC : h.get? C = some (excClassObj nm q C N bs bm hdct sn sub ab col dd k0 k1 k2 k3 k5 "ValueError.__new__")) (he : h.get? e = some (excO C t0)) (hu : h.get? u = some (kxs_mw "ValueError.__init__" e)) (hrest : rest.length ≤ sizeLine)
    (hq : ∀ h' t1, (∀ b o, b ≠ e → h.get? b = some o → h'.get? b = some o) → h'.get? e = some (excO C t1) → Q .none ⟨h', g, d, t, os⟩) :
    wpAny (model prog w) A (call (.ref u) rest) Q E ⟨h, g, d, t, os⟩ := by
  refine wpAny_call (codeAny_of_tree ?_)
  show wpAny _ A.in1 (callAny (.ref u) ⟨rest, []⟩) _ _ _
  simp only [callAny]
  refine wpAny_bind (wpAny_load hu ?_)
  simp only [kxs_mw, show (Value.type "method-wrapper" == Value.type "method" || Value.type "method-wrapper" == Value.type "builtin_function_or_method" || Value.type "method-wrapper" == Value.type "method-wrapper") = true by decide, if_true]
  refine W.KFB.if_so (by decide) ?_
  refine wpAny_bind (check_bound_init F.excBase_ValueError.toExcCallFacts hC he rfl ?_)
  refine wpAny_bind (wpAny_pure (wpAny_pure ?_))
  refine ⟨plainId_quiet F.excBase_ValueError.init.plain _, codeAny_builtin F.excBase_ValueError.initEntry ?_⟩
  exact exc_init_tree (cls := .ref C) (t0 := t0) (dv := none) (c2 := .none) (c3 := .none) (b4 := .bool false) he hrest fun h' k e' t' => hq h' _ k e'
end
theorem LowOne.one_size (v : Value) : [v].length ≤ sizeLine := by
  rw [sizeLine_eq]
  exact (by decide : 1 ≤ 16777216)
section
variable {prog : Program} {w : World} {A : Around} {c : Code} {E : Value → Shared → Prop} {s : Shared} {env : PySem.Env}
theorem mcall {o e : Expr} {name : Str} {apos pos : Pos} {Q : Value → Shared → Prop}
    (h : wpAt (model prog w) A c (attributeBase o name env (eval o env)) (fun ov s₁ => ∀ pl, wpAny (model prog w) A (getMethod ov name pl) (fun fx s₂ => wpAny (model prog w) A (callWith pos fx.1 fx.2 (backTo pos (starEach [e] env)) []) Q E s₂) E s₁) E s)
    (hline : (apos.endLine == pos.line) = true) (hs : starEach [e] env = [(false, eval e env)]) :
    wpAt (model prog w) A c (eval (.Call (.Attribute o name apos) [e] [] pos) env) Q E s := by
  rw [arm_eval_Call]
  refine wpAt_bind (wpAt_mono h (fun ov s₁ h₁ => wpAt_of_wpAny (wpAny_bind (wpAny_standAt ?_))) fun _ _ x => x)
  have hform : methodCallForm ([e].length + ([] : List Keyword).length) (backTo pos (starEach [e] env)) (backToKw pos (keywordEach [] env)) = true := by rw [hs]; rfl
  have hpos : methodCallPos true o env apos pos = pure pos := by unfold methodCallPos; simp [hline]
  unfold methodCall
  rw [hform]
  exact wpAny_bind (wpAny_holding (wpAny_mono (h₁ _) (fun fx s₂ h₂ => wpAny_bind (wpAny_of_eq hpos h₂)) fun _ _ x => x))
end
section
variable {prog : Program} {w : World} {A : Around} {E : Value → Shared → Prop} {R : Result → Shared → Prop} {s : Shared} {K : Frag} {mg mb : Str → Option Value} {x f : Str} {C fI : Addr}
theorem own_init (T : OwnTxt prog K mg x f C fI) {a t0 : Addr} {v : Value} (X : K.In s.heap) (hlim : s.heap.NoLimit) (hG : s.heap.Ns mainGlobals mg) (hB : s.heap.Ns builtinsNs mb) (hsb : mb "super" = some (.type "super")) (hx : s.heap.get? a = some (excO C t0)) (hnx : K.lookup a = none) (hroom : A.depth < recursionLimit)
    (hq : ∀ h' tk dx t1, InitEnd f s.heap h' a C dx t1 v → R (.ok (.ret .none)) { s with heap := h', toks := tk }) :
    codeAny (model prog w) A (.call (.ref fI) ⟨[.ref a, v], []⟩) R s := by
  obtain ⟨oc, od, osl, nm', q', a1, a2, scope, cc, cda, kV, doc, pm, ct, an, p0, p1, p2, p3, p4, p5, q1, q2, q3, q4, vs, file, tf, c1, c2, d1, d2, s1, s2, lk, hcd, hline, ha1, ha2, lcd, hvs, hfile, lcc, hk, hco, hgen, hcell, hself, hf, hsup, hcls⟩ := T.fn
  obtain ⟨nm, q, N, bs, bm, sn, sub, ab, col, dd, k0, k1, k2, k3, k5, hC, hbm, hal⟩ := T.cls
  have hcl : clsIn K C = some { name := nm, bases := bs, mro := .ref C :: bm, ns := N, qualname := q, hasDict := true, slotNames := sn, subclasses := sub, abstract := ab, collection := col, hasDel := false } := by unfold clsIn; rw [hC] <;> rfl
  have haC : a ≠ C := fun z => by
    have e := X _ _ hC
    rw [← z, hx] at e
    cases e
  refine ks_codeAny_call_defAt (binds := [((("self" : Str)), .ref a), (f, v)]) hroom (X _ _ lk) rfl hlim (codeRec_of X hcd) rfl ?_ hcell ?_ (fun h₁ hns kp => ?_) hco hgen hk
  · refine BindsTo.of_eq ?_
    obtain ⟨n1, b1, b2⟩ := a1
    obtain ⟨n2, b3, b4⟩ := a2
    obtain rfl : n1 = _ := ha1
    obtain rfl : n2 = _ := ha2
    rcases T.fin with e | e | e <;> (subst e; rfl)
  · intro y hy
    have z : y = ((("self" : Str)), Value.ref a) ∨ y = (f, v) := by simpa using hy
    rcases z with rfl | rfl
    · exact hself
    · exact hf
  have k : ∀ b o, s.heap.get? b = some o → h₁.get? b = some o := kp
  have X₁ : K.In h₁ := X.keeps k
  have hx₁ := k _ _ hx
  have hxL : s.heap.objs.size ≠ a := Nat.ne_of_gt (Heap.lt_size hx)
  refine ks_wpAt_execs_cons (ks_wpAt_Expr_any (mcall ?_ hline rfl) ?hi ?hs)
  case hs => rfl
  case hi => simp [interactive, hk, callEnv, newEnv]
  have G₁ := hG.keeps k
  have B₁ := hB.keeps k
  refine ks_wpAt_super_base (f := fI) (cc := cda) hsup hcls rfl rfl (X₁ _ _ lk) rfl rfl rfl (X₁ _ _ lcd) rfl hvs hfile T.top ?_
  refine ks_loadName_global hk hsup (loadGlobal_builtin G₁ T.sup B₁ hsb ⟨rfl, ?_⟩)
  refine wpAny_loadName_free hk hcls rfl ⟨_, X₁ _ _ lcc, rfl⟩ ?_
  have hm1 : ([((("self" : Str)), Value.ref a), (f, v)] : List (Str × Value)).reverse.lookup ("self" : Str) = some (.ref a) := by rcases T.fin with e | e | e <;> (subst e; rfl)
  have hm2 : ([((("self" : Str)), Value.ref a), (f, v)] : List (Str × Value)).reverse.lookup f = some v := by rcases T.fin with e | e | e <;> (subst e; rfl)
  have hfd : (f == ("__debug__" : Str)) = false := by rcases T.fin with e | e | e <;> (subst e; rfl)
  refine wpAny_loadName_local hk (by rw [ha1]; exact hself) hns (by rw [ha1]; exact hm1) ?_
  obtain ⟨oD, hD1, hD2⟩ : ∃ oD, h₁.get? C = some oD ∧ oD.data = .cls { name := nm, bases := bs, mro := .ref C :: bm, ns := N, qualname := q, hasDict := true, slotNames := sn, subclasses := sub, abstract := ab, collection := col, hasDel := false } := ⟨_, X₁ _ _ hC, rfl⟩
  refine ks_wpAny_isType_cls hD1 hD2 ⟨rfl, ?_⟩
  refine ks_wpAny_call_super hD1 hD2 hx₁ rfl (fun c e => by cases e) (looks_mroIn X₁ ?_) (fun h₂ hso k₂ => ?_)
  · unfold mroIn
    rw [hcl, Option.bind_some, if_neg (show ¬ (List.isEmpty (Value.ref C :: bm) = true) from Bool.false_ne_true)]
    simp
  intro pl
  have X₂ : K.In h₂ := X₁.keeps k₂
  refine kxs_getMethod kxs_ValueError hso (looks_opaque X₂ T.opq) (l₀ := .ref C :: bm) (l := bm) ?_ ?_ X₂ hal ?_ haC rfl ?_
  · exact fun A Q E s k q => wpAny_bind ((looks_clsIn X₂ hcl) A _ E s k (wpAny_pure q))
  · exact ESX.drop_own C bm
  · have I₂ : InstAt h₂ a (excO C t0) C none := ⟨k₂ _ _ hx₁, rfl, rfl, trivial⟩
    exact I₂.type.andThen (looks_subIn X₂ T.veC)
  dsimp only
  have k₃ : ∀ b o, h₂.get? b = some o → (h₂.push (kxs_mw "ValueError.__init__" a)).get? b = some o := fun b o e => Heap.get?_push_of_some _ e
  have hu : (h₂.push (kxs_mw "ValueError.__init__" a)).get? h₂.objs.size = some (kxs_mw "ValueError.__init__" a) := Heap.get?_push_size _ rfl
  have hns₃ := (hns.keeps k₂).keeps k₃
  have hx₃ := k₃ _ _ (k₂ _ _ hx₁)
  refine kxs_callWith (i := "ValueError.__init__") (x := a) rfl (evalArgs_plain ?_)
  refine Calls.spliced_cons (wpAny_Name (wpAny_loadName_local hk hf hns₃ hm2 ?_) hfd)
  refine Calls.spliced_nil ⟨hu, ?_⟩
  refine call_mw (k₃ _ _ (k₂ _ _ (X₁ _ _ hC))) hx₃ hu (LowOne.one_size v) (fun h₄ t1 k₄ hx₄ => ?_)
  have hxL' : s.heap.objs.size ≠ a := hxL
  have hns₄ : h₄.Ns s.heap.objs.size _ := hns₃.at fun o e => k₄ _ _ hxL e
  have kx : ∀ b o, b ≠ a → h₁.get? b = some o → h₄.get? b = some o := fun b o hb e => k₄ b o hb (k₃ _ _ (k₂ _ _ e))
  have X₄ : K.In h₄ := fun b o e => kx b o (fun z => by rw [z, hnx] at e; cases e) (X₁ _ _ e)
  refine wpAt_of_wpAny (wpAny_execs_cons (plainObj_wpAny_Assign_Attribute ?_))
  refine wpAny_Name (wpAny_loadName_local hk hf hns₄ hm2 ?_) hfd
  refine wpAny_Name (wpAny_loadName_local hk hself hns₄ hm1 ?_) (by decide)
  refine set_plain X₄ (ox := excO C t1) (od := none) ⟨hx₄, rfl, rfl, trivial⟩ T.sa ?_
  refine exc_osa X₄ hx₄ hcl (show refsVE (.ref C :: bm) = true from hbm) rfl T.noN (fun h₅ tk₅ dx k₅ dn dne hx₅ hn₅ => ?_)
  show wpAny _ _ (execs _ _) _ _ _
  refine wpAny_execs_nil (hq h₅ tk₅ dx t1 ⟨fun b o hb e => k₅ b o hb (kx b o hb (k b o e)), hx₅, Nat.le_of_lt (Nat.lt_of_lt_of_le hns₄.lt dn), dne, hn₅⟩)
theorem own_made (T : OwnTxt prog K mg x f C fI) {v : Value} (X : K.In s.heap) (hlim : s.heap.NoLimit) (hG : s.heap.Ns mainGlobals mg) (hB : s.heap.Ns builtinsNs mb) (hsb : mb "super" = some (.type "super")) (hroom : A.depth + 1 < recursionLimit)
    (hq : ∀ h' tk e d, OwnMade f s.heap h' e C d v → R (.ok (.ret (.ref e))) { s with heap := h', toks := tk }) :
    codeAny (model prog w) A (.call (.ref C) ⟨[v], []⟩) R s := by
  obtain ⟨nm, q, N, bs, bm, sn, sub, ab, col, dd, k0, k1, k2, k3, k5, hC, hbm, hal⟩ := T.cls
  obtain ⟨hp, g, dr, tk, os⟩ := s
  have k : ∀ b o, hp.get? b = some o → ((hp.push (kdv_tup [v])).push (excO C hp.objs.size)).get? b = some o := fun b o e => Heap.get?_push_of_some _ (Heap.get?_push_of_some _ e)
  have hget : ((hp.push (kdv_tup [v])).push (excO C hp.objs.size)).get? (hp.objs.size + 1) = some (excO C hp.objs.size) := by heap_get
  have hnx : K.lookup (hp.objs.size + 1) = none := by
    cases e : K.lookup (hp.objs.size + 1) with
    | none => rfl
    | some o =>
      have z : hp.get? (hp.objs.size + 1) = some o := X _ _ e
      exact absurd (Nat.lt_of_succ_lt (Heap.lt_size z)) (Nat.lt_irrefl _)
  refine call_own F.excBase_ValueError (fun X => refsVE_contains X bm hbm) (X _ _ hC) (looks_findIn X T.iC) (fun self => bind_fn X self T.tC) (LowOne.one_size v) ?_
  refine own_init (s := ⟨(hp.push (kdv_tup [v])).push (excO C hp.objs.size), g, dr, tk, os⟩) T (X.keeps k) (hlim.keeps k) (hG.keeps k) (hB.keeps k) hsb hget hnx ?_ fun h' tk' dx t1 ⟨k', hx, dn, dne, hns⟩ => ?_
  · show A.depth + 1 < recursionLimit
    exact hroom
  · have old : ∀ b o, hp.get? b = some o → h'.get? b = some o := fun b o e => k' b o (Nat.ne_of_lt (Nat.lt_succ_of_lt (Heap.lt_size e))) (k b o e)
    have z : hp.objs.size + 1 + 1 ≤ dx := by
      first
        | (simpa only [Heap.size_push] using dn)
        | exact dn
        | (have q := dn; rw [Heap.size_push, Heap.size_push] at q; exact q)
    exact ⟨rfl, hq h' tk' (hp.objs.size + 1) dx ⟨old, Nat.le_succ _, ⟨_, _, hx, rfl, rfl, rfl, rfl⟩, Nat.le_trans (Nat.le_trans (Nat.le_succ _) (Nat.le_succ _)) z, dne, hns⟩⟩
end
end OwnX
end PySem
namespace Ev
open PySem PySem.Spec PyProof.Rows L2
theorem relO_one {v : V} {v' : Value} (r : RelV v v') (n f : Str) : RelO (List.lookup f [(n, v)]) (if f = n then some v' else none) := by
  by_cases hw : f = n
  · subst hw
    rw [if_pos rfl]
    have q : List.lookup f [(f, v)] = some v := by simp [List.lookup]
    rw [q]
    exact r
  · rw [if_neg hw]
    have qw : (f == n) = false := by simpa using hw
    have q2 : List.lookup f [(n, v)] = none := by simp [List.lookup, qw]
    rw [q2]
    trivial
section
variable {X : Cx} {C fI : Addr} {x n : Str}
/-- x(e), x an own exception -/
def tMkE (C : Addr) (n : Str) (ta : TA) : L2.St → Hp → XK → Prop := fun σ H Q => ta σ H fun vs H1 => ∃ v, vs = [v] ∧ ∀ d, H1 d = none → Q (.ref C) (some d) (upd H1 d (.xd [(n, v)]))
theorem pmk_own {a : Expr} {ta : TA} {p pos : Pos} {k : Nat} (T : PySem.OwnX.OwnTxt X.prog X.K X.mg x n C fI) (hr : Room k X.A) (ha : PA X [a] ta) (hg : Gl X x) (hdb : (x == ("__debug__" : Str)) = false)
    (he : starEach (a :: []) X.env = (false, eval a X.env) :: starEach [] X.env) (hpl : (backTo pos (starEach [] X.env)).any (·.1) = false := by rfl) :
    PMk X (.Call (.Name x p) [a] [] pos) (tMkE C n ta) := by
  intro pins s σ H Q I h
  refine wpAny_Call_Name_kw (ld_glob I hg T.gC ?_ hdb)
  refine PySem.W.callWith_K (h₀ := X.base) I.ok.mod.kin T.kC (thn (ha.run pos pins s σ H _ I h) fun us s1 hh => ?_) he hpl
  obtain ⟨vs, H1, I1, r1, v, ev, q1⟩ := hh
  subst ev
  refine ⟨I1.kIn, ?_⟩
  cases r1 with
  | cons rv rn =>
    rename_i v' us'
    cases rn
    show wpAny _ _ (call (.ref C) [v']) _ _ _
    have hlim := I1.nolimit
    have hG := I1.mod.glob.keeps I1.bk
    obtain ⟨mb, hB, hb2⟩ := I1.mod.blt
    have hB := hB.keeps I1.bk
    have hsb : mb "super" = some (.type "super") := (hb2 _ (by decide)).trans (by decide +kernel)
    obtain ⟨hp, g, dr, tk, os⟩ := s1
    refine wpAny_call (PySem.OwnX.own_made T I1.kIn hlim hG hB hsb (by have := hr.dp; omega) fun h' tk' e d M => ?_)
    show MkP X pins σ Q (.ref e) ⟨h', g, dr, tk', os⟩
    obtain ⟨oe, fv, hoe, hc, hd, hdat, h1⟩ := M.obj
    have hns := M.ns
    obtain ⟨G', g1, g2⟩ := restrict h' fun b => decide (b ≠ e)
    have gk : ∀ b, b ≠ e → G'.get? b = h'.get? b := fun b hb => g1 b (decide_eq_true hb)
    have ge : G'.get? e = none := g2 e (by simp)
    have old : ∀ b o, hp.get? b = some o → G'.get? b = some o := fun b o q => (gk b (Nat.ne_of_lt (Nat.lt_of_lt_of_le (Heap.lt_size q) M.new))).trans (M.keep b o q)
    have ob : ObjOk X.prog X.w (upd H1 d (.xd [(n, v)])) G' d (.xd [(n, v)]) :=
      ⟨_, hns.at (fun o q => (gk d M.dne).trans q), fun f => relO_one rv n f⟩
    have J : Inv X pins σ (upd H1 d (.xd [(n, v)])) ⟨G', g, dr, tk', os⟩ := I1.laid (t' := tk') old M.dbig ob
    refine ⟨e, oe, fv, ⟨G', g, dr, tk', os⟩, _, .ref C, some d, rfl, J, fun b o q => ?_, ge, hoe, ⟨hc, hd⟩, hdat, h1, ?_, rfl, I1.bare, raises_own T.exC T.tyC, q1 d (I1.hok.fresh M.dbig)⟩
    · by_cases hb : b = e
      · have q' : G'.get? b = some o := q
        rw [hb, ge] at q'; cases q'
      · exact (gk b hb).symm.trans q
    · rw [upd_ne (Ne.symm M.dne)]
      exact I1.hok.fresh M.new
end
section
variable {G : GI} {X : Cx} {W : XK} {pos : Pos} {O P0 : Hp} {r0 : List Addr} {fI : Addr} {x : Str}
/-- raise x(e) -/
theorem ok_raise {a : Expr} {e : E} {c k : Nat} {F : CallS} {p pos2 : Pos} (g : Good G X W) (T : PySem.OwnX.OwnTxt X.prog X.K X.mg x (G.fld c) (G.exc c) fI) (hr : Room k X.A) (ha : PA X [a] (RL G (evEs F [e]) W)) (hg : Gl X x) (hdb : (x == ("__debug__" : Str)) = false)
    (he : starEach [a] X.env = (false, eval a X.env) :: starEach [] X.env) : PS X (.Raise (some (.Call (.Name x p) [a] [] pos)) none pos2) (RS G (evS F (.raise c e)) W) := by
  refine PS.monoR (ps_raise g.calm g.tk (pmk_own T hr ha hg hdb he)) fun D σ H q => ?_
  obtain ⟨O, P, r, env, h, z, R, re, q, pv⟩ := q
  simp only [evS] at q
  show RL G (evEs F [e]) W σ H _
  refine ⟨O, P, r, env, h, ?_⟩
  simp only [evEs, consA]
  unfold sB at q
  split at q
  · rename_i v h1 he
    refine ⟨_, R, re, rfl, fun P1 r1 H1 xs f1 R1 rl => ?_⟩
    dsimp only at q
    split at q
    · rename_i p
      cases q
      cases rl with
      | @cons y _ _ _ rv t =>
        cases t
        refine ⟨y, rfl, fun d hd => ?_⟩
        obtain ⟨R2, f2⟩ := R1.newP (o := .xd [(G.fld c, y)]) hd (fun ps z => by cases z)
        exact pv _ r1 _ d y (f1.trans f2) R2 upd_same (Rp.mono f2.same rv)
    · cases q
  · rename_i c' p h1 he
    cases q
    exact ⟨_, R, re, rfl, pv⟩
  · cases q
end
end Ev
end

section
set_option Elab.async false
set_option linter.all false
set_option maxRecDepth 100000
set_option autoImplicit false
/-! a call that is refused: told(lambda: f(..)) -/
namespace Ev
open PySem PySem.Spec PyProof.Rows L2 LamX
theorem RelH.extN {G : GI} {O P H H1 : Hp} {r : List Addr} {h : Hq} (R : RelH G O P H r h) (x : ExtN H H1) (t : Tabs G.T H1) : RelH G O P H1 r h := by
  refine ⟨fun b o e => x b o (R.sub b o e) fun ps z => R.notab b ps (by rw [e, z]), R.notab, R.len, fun n a ob e1 e2 => ?_, R.inj, t, fun b o e => ⟨?_, (R.out b o e).2⟩, R.far, R.nocode⟩
  · have q := R.obj n a ob e1 e2
    cases ob with
    | lst ds =>
      obtain ⟨h0, xs, h1, h2, h3⟩ := q
      exact ⟨h0, xs, x _ _ h1 (fun ps z => by cases z), h2, h3⟩
    | ro k ds =>
      cases k with
      | true => exact q
      | false =>
        obtain ⟨xs, h1, h2, h3⟩ := q
        refine ⟨xs, ?_, h2, h3⟩
        rcases h1 with h1 | ⟨o, h1⟩
        · exact .inl (x _ _ h1 (fun ps z => by cases z))
        · exact .inr ⟨o, x _ _ h1 (fun ps z => by cases z)⟩
    | dead => trivial
  · obtain ⟨xs, rfl⟩ := R.nocode b o e
    exact x _ _ (R.out b _ e).1 (fun ps z => by cases z)
/-- told: try: a() / except x as n: return n.f; return "" -/
def TTref (CS : Addr) (f : Str) : (XK → Hp → VK → Prop) → Hp → VK → Prop := fun tl H Q =>
  tl (fun cls d H' => cls = .ref CS ∧ ∃ dd v, d = some dd ∧ H' dd = some (.xd [(f, v)]) ∧ Q v H') H (fun _ H' => Q (.str ⟨#[]⟩) H')
/-- a wish that may ask for the slots' count -/
theorem Takes.len {X : Cx} {W : WX} (t : Takes X W) : Takes X (fun c d σ H => σ.length = X.N.length → W c d σ H) := fun u s' ⟨a, B, sI, pins, σ, H, cls, d, e, I, nb, up, sky, na, os, ag, w⟩ =>
  t u s' ⟨a, B, sI, pins, σ, H, cls, d, e, I, nb, up, sky, na, os, ag, w I.len⟩
theorem ref_gives {X : Cx} {x a e n fl q : Str} {sg : Scope} {g CS : Addr} {cdg : Value} {j : Nat} {p1 p2 p3 p4 p5 p6 p7 p8 p9 p10 p11 : Pos} (hge : sg.names.lookup e = some .globalImplicit) (hme : X.mg e = some (.ref CS)) (hde : (e == ("__debug__" : Str)) = false)
    (hN : ([a, n] : List Str).Nodup) (hln : sg.names.lookup n = some .local) (T : XfC X.K CS) (hno : PySem.W.findIn X.K (.ref CS) fl = some none) (he : PySem.W.exmOne X.K (.ref CS) (.ref CS) = some true) (hd : (n == ("__debug__" : Str)) = false) (hcd : (n == ("__classdict__" : Str)) = false) (hfl : fl = "name") :
    GivesTo X [a, n] x sg g cdg [.Try [.Expr (.Call (.Name a p1) [] [] p2) p3] [.ExceptHandler (some (.Name e p4)) (some n) [.Return (some (.Attribute (.Name n p5) fl p6)) p7] p8] [] [] p9, .Return (some (.Constant (.str ⟨#[]⟩) j p10)) p11] a q (TTref CS fl) := by
  subst hfl
  intro f c' s H Q tl act hc h
  have hgl : Gl (cxOf C8.CX0 X.prog X.w X.K X.mg X.base [a, n] x sg g cdg X.A X.stack s H C8.E0).nox e := hge
  refine ⟨_, pss_cons (ps_try_as (X := (cxOf C8.CX0 X.prog X.w X.K X.mg X.base [a, n] x sg g cdg X.A X.stack s H C8.E0).nox) (i := 1) (c := .ref CS)
      (tb := fun W D σ H => ∃ Ech : XK, (∀ cls d σ' H', Ech cls d H' → σ'.length = 2 → W cls d σ' H') ∧ σ[0]? = some (some (.ref f)) ∧ H c' = some (CodeO c' q) ∧ tl Ech H (fun _ H' => D.nx σ H'))
      (ts := fun a cls d => tRet (tXf a cls d CS "name" (tVar 1))) (Wout := fun _ _ _ _ => False)
      rfl rfl hN rfl hln ⟨hgl, hde, .inl hme⟩ LamX.takes0 (fun W pn xe tk _ => ?_) (fun a oe cls d pn hz hf => pss_one (ps_ret (pe_xf T hno hz hf (pe_var (i := 1) rfl (.inl hln) hd hcd))))) (pss_one (ps_ret pe_str)), ?_⟩
  · refine ⟨fun pins s' σ H' D I h' => ?_⟩
    obtain ⟨Ech, hW, h1, h2, h3⟩ := h'
    have hp := act _ pn xe Ech p1 p2 (Takes.len tk) (fun cls d σ' H' h => hW cls d σ' H' h)
    have hq := pss_one (ps_expr (pos := p3) hp)
    exact hq.run pins s' σ H' D I ⟨h1, h2, h3⟩
  · refine ⟨fun cls d H' => cls = .ref CS ∧ ∃ dd v, d = some dd ∧ H' dd = some (.xd [(("name" : Str), v)]) ∧ Q v H', fun cls d σ' H' ⟨e1, dd, v, e2, e3, e4⟩ hl => ⟨true, by rw [e1]; exact he, fun _ b hb => ?_, fun z => by cases z⟩, rfl, hc, h⟩
    refine ⟨.ref b, by rw [List.getElem?_set_self (by omega)], rfl, e1, dd, _, v, e2, e3, by simp [List.lookup], e4⟩
/-- the facts for a context in which lambdas are told of -/
structure LamOk (G : GI) (X : Cx) (x : Str) : Prop where
  ex : ∃ (a e n fl : Str) (g c PT : Addr) (pg : Arguments) (sg : Scope) (dV kV doc pm cdv ct oc : Value) (an od : Option Addr) (osl : Array (Option Value)) (j : Nat) (p1 p2 p3 p4 p5 p6 p7 p8 p9 p10 p11 : Pos),
    X.mg x = some (.ref g) ∧ PySem.W.keepIn X.K (.ref g) = true ∧
    X.K.lookup g = some ⟨oc, od, .func (PySem.W.fnOf x x pg [.Try [.Expr (.Call (.Name a p1) [] [] p2) p3] [.ExceptHandler (some (.Name e p4)) (some n) [.Return (some (.Attribute (.Name n p5) fl p6)) p7] p8] [] [] p9, .Return (some (.Constant (.str ⟨#[]⟩) j p10)) p11] sg dV kV doc pm an cdv ct), osl⟩ ∧
    PySem.W.codeIn X.K cdv x = true ∧ L2.Binds X.K (PySem.W.fnOf x x pg [.Try [.Expr (.Call (.Name a p1) [] [] p2) p3] [.ExceptHandler (some (.Name e p4)) (some n) [.Return (some (.Attribute (.Name n p5) fl p6)) p7] p8] [] [] p9, .Return (some (.Constant (.str ⟨#[]⟩) j p10)) p11] sg dV kV doc pm an cdv ct) [a] [] ∧
    FnScope [a, n] [a] sg ∧ Vis sg a ∧ sg.names.lookup e = some .globalImplicit ∧ X.mg e = some (.ref (G.exc 0)) ∧ (e == ("__debug__" : Str)) = false ∧ sg.names.lookup n = some .local ∧ XfC X.K (G.exc 0) ∧ PySem.W.findIn X.K (.ref (G.exc 0)) fl = some none ∧
    PySem.W.exmOne X.K (.ref (G.exc 0)) (.ref (G.exc 0)) = some true ∧ (n == ("__debug__" : Str)) = false ∧ (n == ("__classdict__" : Str)) = false ∧ fl = "name" ∧ G.fld 0 = fl ∧
    (a == ("__debug__" : Str)) = false ∧ (a == ("__classdict__" : Str)) = false ∧
    TabB X.base X.mg c PT ∧ X.env.code = .ref c ∧ (PT, X.env.qual ++ "<lambda>") ∈ G.T ∧ ∀ p ∈ G.T, p.1 = PT → p.2 = X.env.qual ++ "<lambda>"
def noArgs : Arguments := { posonlyargs := [], args := [], vararg := none, kwonlyargs := [], kw_defaults := [], kwarg := none, defaults := [] }
section
variable {G : GI} {X : Cx} {W : XK} {pos : Pos} {O P0 : Hp} {r0 : List Addr}
theorem ok_refused {x : Str} {body : Expr} {scope : Scope} {p lpos : Pos} {k : Nat} {e : E} {F : CallS} (lo : LamOk G X x) (hg : Gl X x) (hdb : (x == ("__debug__" : Str)) = false) (hr : Room (k + 2) X.A) (L : LamS X.env.scope scope)
    (hbody : ∀ (A : Around) (outer : List PySem.Env) (s : Shared) (H : Hp) (E : XK) (f c' : Addr), Room k (A.deeper (lamEnv X scope s.heap.objs.size f c')) → PE (lamCx X A outer s H E scope f c') body (RE G (evE F e) E)) :
    PE X (.Call (.Name x p) [.Lambda noArgs body scope lpos] [] pos) (RE G (evE F (.refused e)) W) := by
  obtain ⟨a, en, n, fl, g, c, PT, pg, sg, dV, kV, doc, pm, cdv, ct, oc, an, od, osl, j, p1, p2, p3, p4, p5, p6, p7, p8, p9, p10, p11, hm, hk, lk, hcg, hb, Sg, hva, hge, hme, hde, hln, T, hno, hex, hnd, hncd, hfl, hf0, had, hacd, TB, hcode, hmT, hu⟩ := lo.ex
  refine PE.monoR (pe_lamcall (t := fun E => RE G (evE F e) E) hg hm hk lk hcg hb Sg rfl hva (ref_gives hge hme hde Sg.nd hln T hno hex hnd hncd hfl) TB hcode hmT hu hr L rfl (fun _ _ _ _ _ => rfl) hbody hdb had hacd) fun σ H Q q => ?_
  obtain ⟨O, P, r, env, h, z, R, re, q, pv⟩ := q
  refine ⟨R.tabs, fun H1 ex1 T1 => ?_⟩
  have R1 := R.extN ex1 T1
  simp only [evE] at q
  split at q
  · rename_i v h1 he
    cases q
    exact ⟨O, P, r, env, h, _, R1, re, he, fun P2 r2 H2 y f2 R2 rv => pv P2 r2 H2 _ f2 R2 (.str _ (Nat.zero_le _))⟩
  · rename_i pl h1 he
    cases q
    refine ⟨O, P, r, env, h, _, R1, re, he, fun P2 r2 H2 d y f2 R2 hd rp => ⟨rfl, d, y, rfl, by rw [← hf0]; exact hd, pv P2 r2 H2 y f2 R2 rp⟩⟩
  · cases q
end
end Ev
end

section
set_option Elab.async false
set_option linter.all false
set_option maxRecDepth 100000
set_option autoImplicit false
/-! len(set(..)) -/
namespace Ev
open PySem PySem.Spec PyProof.Rows L2 RZ
theorem distinct_mem {x : Int} : ∀ {l : List Int}, x ∈ distinct l ↔ x ∈ l
  | [] => by simp [distinct]
  | y :: r => by
    simp only [distinct]
    split
    · rename_i h
      rw [distinct_mem (l := r)]
      constructor
      · exact fun z => .tail _ z
      · intro z
        rcases List.mem_cons.mp z with rfl | z
        · exact h
        · exact z
    · simp only [List.mem_cons, distinct_mem (l := r)]
theorem distinct_nodup : ∀ l : List Int, (distinct l).Nodup
  | [] => .nil
  | y :: r => by
    simp only [distinct]
    split
    · exact distinct_nodup r
    · rename_i h
      exact List.nodup_cons.mpr ⟨fun z => h (distinct_mem.mp z), distinct_nodup r⟩
theorem same_count {a b : List Int} (ha : a.Nodup) (hb : b.Nodup) (h : ∀ x, x ∈ a ↔ x ∈ b) : a.length = b.length := ((List.perm_ext_iff_of_nodup ha hb).mpr h).length_eq
section
variable {G : GI} {X : Cx} {W : XK} {pos : Pos} {O P0 : Hp} {r0 : List Addr}
theorem ok_lenset {a : Expr} {ea : E} {F : CallS} {p p2 q : Pos} (g : Good G X W) (hg : Gl X "len") (hm : X.mg "len" = none) (hg2 : Gl X "set") (hm2 : X.mg "set" = none) (ha : PE X a (RE G (evE F ea) W))
    (na : starEach [a] X.env = (false, eval a X.env) :: starEach [] X.env) : PE X (.Call (.Name "len" p) [.Call (.Name "set" p2) [a] [] q] [] pos) (RE G (evE F (.bi .lenset [ea])) W) := by
  refine ⟨fun pins s σ H Q I h => ?_⟩
  obtain ⟨O, P, r, env, hq, z, R, re, e, pv⟩ := h
  simp only [evE, evEs] at e
  have h2 : RE G (evE F ea) W σ H fun x H1 => ∃ (l : Addr) (ns : List Int), x = .ref l ∧ SqT X.K H1 l (ns.map V.int) ∧ ns.length ≤ 1000 ∧ Q (.int ((distinct ns).length : Nat)) H1 := by
    refine ⟨O, P, r, env, hq, ?_⟩
    unfold consA at e
    cases hx : evE F ea env hq with
    | none => rw [hx] at e; simp [bndA] at e
    | some w =>
      obtain ⟨w, h1⟩ := w
      rw [hx] at e
      cases w with
      | exc c p =>
        simp only [bndA] at e
        cases e
        exact ⟨_, R, re, rfl, pv⟩
      | val v =>
        refine ⟨_, R, re, rfl, fun P1 r1 H1 x f1 R1 rv => ?_⟩
        simp only [bndA] at e
        split at e
        · rename_i ds e1
          split at e
          · rename_i w e2
            obtain ⟨d, rfl⟩ := semB_1 e2 (by decide)
            obtain ⟨x', v', hx', hv', rv', ev⟩ := arg1 (show RepL G P1 r1 [x] [v] from .cons rv .nil) e1
            cases hx'
            cases hv'
            unfold semB at e2
            cases d with
            | tuple xs =>
              dsimp only at e2
              split at e2
              · rename_i ns hns
                split at e2
                · rename_i hl
                  cases e2
                  obtain ⟨c, zs, rfl, hz, hxx, kk⟩ := view_items R1 rv' ev rfl
                  rcases kk with ⟨kk, _⟩ | ⟨_, kk⟩
                  · cases kk
                  · obtain ⟨rfl, _⟩ := hxx.ints hns
                    exact ⟨c, ns, rfl, g.hK ▸ kk, hl, fin pv e f1 R1 (.int _)⟩
                · cases e2
              · cases e2
            | _ => cases e2
          · cases e
        · cases e
  refine Call_ (ld_blt I hg hm boot_len ?_)
  refine PyProof.Rows.callWith_builtin1 (PyProof.Rows.args_cons ?_ rfl) rfl rfl
  refine Call_ (ld_blt I hg2 hm2 boot_set ?_)
  refine PyProof.Rows.callWith_type1 (PyProof.Rows.args_cons (thn (ha.run pins s σ H _ I h2) fun v s1 ⟨x, H1, I1, r1, q1⟩ => PyProof.Rows.args_nil ?_) na) na (by rfl)
  obtain ⟨l, ns, rfl, hq, hl, q1⟩ := q1
  cases r1
  obtain ⟨its, rv, pt, hz⟩ := I1.tuple hq
  have hi : IntsAre its.toArray.toList ns := by simpa using RZ.intsAre_vals rv
  refine call_set_tupI ns (I1.ok.hd g.calm) (show s1.heap.IsTuple l its.toArray from pt) hi (by unfold scanBound; omega) fun h' tk c R1 hcn k => ?_
  obtain ⟨o, es, ep, t, ho, hex, hdt, gg, nd, hm3, hb, hf, hn, hr, hl2⟩ := R1
  refine PyProof.Rows.args_nil ?_
  have hc : c = (distinct ns).length := by
    rw [← hn]
    have e1 : es.size = (es.toList.map keyOf).length := by simp
    rw [e1]
    refine same_count nd (distinct_nodup ns) fun x => ?_
    rw [distinct_mem, ← hm3 x, decide_eq_true_eq]
  have I2 : Inv X pins σ H1 { s1 with heap := h', toks := tk } := I1.kept k
  exact call_len_set ho hex hdt hf (by unfold scanBound at hb; omega) ⟨.int ((distinct ns).length : Nat), H1, I2.tok _, ⟨_, by rw [hn, hc]⟩, q1⟩
end
end Ev
end

section
set_option Elab.async false
set_option linter.all false
set_option maxRecDepth 100000
set_option autoImplicit false
/-! the check: a program's text is the small language's -/
namespace Ev
open PySem PySem.Spec PyProof.Rows L2 RZ LamX
/-- what is known of the program -/
structure Tb where
  nms : List Str
  kws : List (Nat × Nat × List Str × List Nat)
  gls : List (Str × D)
  bls : List Str
  rf : Str
  exs : List (Nat × Str)
structure Cs where
  N : List Str
  sc : Scope
  fn : Str → Bool
  lam : Bool
def Cs.blk (C : Cs) (scope : Scope) : Cs := ⟨C.N, relS scope C.sc, fun x => scope.names.lookup x == some .cell, false⟩
def Cs.lamb (C : Cs) (scope : Scope) : Cs := ⟨C.N, scope, fun _ => false, false⟩
structure TbOk (G : GI) (T : Tb) (F : CallS) (lv : Nat) (P : Program) (w : World) (K : PySem.W.Frag) (mg : Str → Option Value) (base : Heap) : Prop where
  fn : ∀ (f : Nat) (x : Str), T.nms[f]? = some x → mg x = some (.ref (G.fi f).a) ∧ PySem.W.keepIn K (.ref (G.fi f).a) = true ∧ L2.Binds K (G.fi f).fd (G.fi f).ps [] ∧ FnOk P w K mg base (L2.CX P w) lv (G.fi f).a (G.fi f).fd (G.fi f).ps (spF G F f)
  kw : ∀ (f n : Nat) (ks : List Str) (perm : List Nat), (f, n, ks, perm) ∈ T.kws → KwOk K (G.fi f).fd (G.fi f).ps n ks perm
  gl : ∀ (x : Str) (c : D), T.gls.lookup x = some c → ∃ u v, mg x = some u ∧ RelV v u ∧ ∀ P, Rp G.K P v c
  bl : ∀ x ∈ T.bls, mg x = none
  ex : ∀ (c : Nat) (x : Str), (c, x) ∈ T.exs → ∃ fI, PySem.OwnX.OwnTxt P K mg x (G.fld c) (G.exc c) fI
structure CtOk (G : GI) (T : Tb) (F : CallS) (lv : Nat) (X : Cx) (W : XK) (C : Cs) : Prop where
  good : Good G X W
  N : X.N = C.N
  sc : X.env.scope = C.sc
  fn : X.fn = C.fn
  room : Room lv X.A
  tb : TbOk G T F lv X.prog X.w X.K X.mg X.base
  lam : C.lam = true → LamOk G X T.rf ∧ Room (lv + 2) X.A
section
variable {G : GI} {T : Tb} {F : CallS} {lv : Nat} {X : Cx} {W : XK} {C : Cs} {pos : Pos}
theorem CtOk.blk (c : CtOk G T F lv X W C) (s : Shared) (H : Hp) (scope : Scope) (cl : List (Str × Addr)) (A : Addr) (fp : List Addr) : CtOk G T F lv (X.blk s H scope (compEnvC scope cl A X.env) fp) W0 (C.blk scope) := by
  refine ⟨c.good.blk _ _ _ _ _, c.N, ?_, rfl, c.room, c.tb, fun h => by cases h⟩
  show relS scope X.env.scope = relS scope C.sc
  rw [c.sc]
theorem CtOk.lamb (c : CtOk G T F lv X W C) {A : Around} {outer : List PySem.Env} {s : Shared} {H : Hp} {E : XK} {scope : Scope} {f c' : Addr} (hr : Room lv (A.deeper (lamEnv X scope s.heap.objs.size f c'))) : CtOk G T F lv (lamCx X A outer s H E scope f c') E (C.lamb scope) := by
  refine ⟨⟨c.good.hK, ?_, rfl, c.good.nd, takes_of rfl rfl rfl rfl⟩, c.N, rfl, rfl, hr, c.tb, fun h => by cases h⟩
  have := hr.un
  show (A.deeper _).units + 100 < cLine
  omega
/-! names -/
def okn (x : Str) : Bool := !(x == ("__debug__" : Str)) && !(x == ("__classdict__" : Str)) && !(x == ("__name__" : Str))
theorem okn_d {x : Str} (h : okn x = true) : (x == ("__debug__" : Str)) = false := by
  unfold okn at h
  revert h
  cases x == ("__debug__" : Str) <;> simp
theorem okn_c {x : Str} (h : okn x = true) : (x == ("__classdict__" : Str)) = false := by
  unfold okn at h
  revert h
  cases x == ("__classdict__" : Str) <;> simp
def visB (C : Cs) (x : Str) : Bool := decide (C.sc.names.lookup x = some .local) || decide (C.sc.names.lookup x = some .cell) || decide (C.sc.names.lookup x = some .free)
theorem visB_ok (c : CtOk G T F lv X W C) {x : Str} (h : visB C x = true) : Vis X.env.scope x := by
  unfold visB at h
  rw [Bool.or_eq_true, Bool.or_eq_true, decide_eq_true_eq, decide_eq_true_eq, decide_eq_true_eq] at h
  unfold Vis
  rw [c.sc]
  rcases h with (h | h) | h
  · exact .inl h
  · exact .inr (.inl h)
  · exact .inr (.inr h)
def locB (C : Cs) (x : Str) : Bool := decide (C.sc.names.lookup x = some .local) || (decide (C.sc.names.lookup x = some .cell) && C.fn x)
theorem locB_ok (c : CtOk G T F lv X W C) {x : Str} (h : locB C x = true) : L2.Loc X.env.scope x ∧ (X.fn x = true ∨ X.env.scope.names.lookup x = some .local) := by
  unfold locB at h
  rw [Bool.or_eq_true, Bool.and_eq_true, decide_eq_true_eq, decide_eq_true_eq] at h
  unfold L2.Loc
  rw [c.sc, c.fn]
  rcases h with h | ⟨h, k⟩
  · exact ⟨.inl h, .inr h⟩
  · exact ⟨.inr h, .inl k⟩
def glB (C : Cs) (x : Str) : Bool := decide (C.sc.names.lookup x = some .globalImplicit)
theorem glB_ok (c : CtOk G T F lv X W C) {x : Str} (h : glB C x = true) : Gl X x := by
  show X.env.scope.names.lookup x = some .globalImplicit
  rw [c.sc]
  exact of_decide_eq_true h
/-- a built-in's name -/
def blB (T : Tb) (C : Cs) (x : Str) : Bool := glB C x && decide (x ∈ T.bls)
theorem blB_ok (c : CtOk G T F lv X W C) {x : Str} (h : blB T C x = true) : Gl X x ∧ X.mg x = none := by
  obtain ⟨h1, h2⟩ := Bool.and_eq_true_iff.mp h
  exact ⟨glB_ok c h1, c.tb.bl x (of_decide_eq_true h2)⟩
/-! plain expressions -/
def nst : Expr → Bool
  | .Starred .. => false
  | _ => true
theorem nst_ok {e : Expr} {es : List Expr} {env : PySem.Env} (h : nst e = true) : starEach (e :: es) env = (false, eval e env) :: starEach es env := by
  cases e <;> first | rfl | cases h
def nstL (es : List Expr) : Bool := es.all nst
theorem nstL_ok {env : PySem.Env} {p : Pos} : ∀ {es : List Expr}, nstL es = true → (backTo p (starEach es env)).any (·.1) = false
  | [], _ => rfl
  | e :: es, h => by
    simp only [nstL, List.all_cons, Bool.and_eq_true] at h
    rw [nst_ok h.1]
    show (false || (backTo p (starEach es env)).any (·.1)) = false
    rw [Bool.false_or]
    exact nstL_ok h.2
theorem nstL_eq {env : PySem.Env} : ∀ {es : List Expr}, nstL es = true → starEach es env = es.map fun e => (false, eval e env)
  | [], _ => rfl
  | e :: es, h => by
    simp only [nstL, List.all_cons, Bool.and_eq_true] at h
    rw [nst_ok h.1, nstL_eq (es := es) h.2]
    rfl
/-- its test is its value's -/
def plainT : Expr → Bool
  | .UnaryOp .Not _ _ => false
  | .BoolOp .. => false
  | .IfExp .. => false
  | .Compare .. => false
  | _ => true
theorem plainT_ok {e : Expr} {env : PySem.Env} (h : plainT e = true) : ∀ whole, isTrue e env whole = (do let v ← whole; standAt e.pos; holding [v] (truthy v)) := by
  intro whole
  cases e with
  | UnaryOp o x p => cases o <;> first | rfl | cases h
  | BoolOp => cases h
  | IfExp => cases h
  | Compare => cases h
  | _ => rfl
def isBO : Expr → Bool
  | .BoolOp .. => true
  | _ => false
def plainIxB : Expr → Bool
  | .Slice .. => false
  | _ => true
theorem plainIxB_ok {e : Expr} (h : plainIxB e = true) : PlainIx e := by
  intro o i
  cases e <;> first | rfl | cases h
def notSet : Expr → Bool
  | .Set .. => false
  | _ => true
theorem notSet_ok {e : Expr} {env : PySem.Env} (h : notSet e = true) : ∀ x, foldedSetIterable e env x = pure x := by
  intro x
  cases e <;> first | rfl | cases h
def notComp : Expr → Bool
  | .ListComp .. => false
  | .SetComp .. => false
  | .DictComp .. => false
  | _ => true
theorem notComp_ok {e : Expr} {env : PySem.Env} {t : Option Expr} {l : Nat} (h : notComp e = true) : swapsWith e t l env = pure false := by
  cases e <;> first | rfl | cases h
end
/-! the check's parts: each with what it shows -/
abbrev KE := Bool → Cs → Expr → Bool
abbrev KL' := Cs → List Expr → Bool
structure OkE (G : GI) (T : Tb) (F : CallS) (lv : Nat) (k : KE) (e : E) : Prop where
  run : ∀ (t : Bool) (C : Cs) (X : Cx) (W : XK) (y : Expr), CtOk G T F lv X W C → k t C y = true → (t = false → PE X y (RE G (evE F e) W)) ∧ (t = true → PT X y (RT G (evE F e) W) ∧ (isBO y = true → PW X y (RT G (evE F e) W)))
structure OkL (G : GI) (T : Tb) (F : CallS) (lv : Nat) (k : KL') (es : List E) : Prop where
  run : ∀ (C : Cs) (X : Cx) (W : XK) (ys : List Expr), CtOk G T F lv X W C → k C ys = true → PA X ys (RL G (evEs F es) W)
/-- for a form whose test is its value's -/
def vB (t : Bool) (y : Expr) (b : Bool) : Bool := b && (!t || plainT y)
section
variable {G : GI} {T : Tb} {F : CallS} {lv : Nat} {X : Cx} {W : XK} {C : Cs} {pos : Pos}
theorem notBO {y : Expr} (h : plainT y = true) : isBO y = false := by
  cases y <;> first | rfl | cases h
theorem vB_ok {t b : Bool} {y : Expr} {ev : Env → Hq → ER} (h : vB t y b = true) (k : b = true → PE X y (RE G ev W)) : (t = false → PE X y (RE G ev W)) ∧ (t = true → PT X y (RT G ev W) ∧ (isBO y = true → PW X y (RT G ev W))) := by
  obtain ⟨h1, h2⟩ := Bool.and_eq_true_iff.mp h
  have pe := k h1
  refine ⟨fun _ => pe, fun ht => ?_⟩
  subst ht
  have h3 : plainT y = true := by simpa using h2
  exact ⟨ok_test pe (plainT_ok h3), fun z => by rw [notBO h3] at z; cases z⟩
theorem OkE.pe {k : KE} {e : E} (h : OkE G T F lv k e) (c : CtOk G T F lv X W C) {y : Expr} (q : k false C y = true) : PE X y (RE G (evE F e) W) := (h.run false C X W y c q).1 rfl
theorem OkE.pt {k : KE} {e : E} (h : OkE G T F lv k e) (c : CtOk G T F lv X W C) {y : Expr} (q : k true C y = true) : PT X y (RT G (evE F e) W) := ((h.run true C X W y c q).2 rfl).1
theorem OkE.pw {k : KE} {e : E} (h : OkE G T F lv k e) (c : CtOk G T F lv X W C) {y : Expr} (q : k true C y = true) (b : isBO y = true) : PW X y (RT G (evE F e) W) := ((h.run true C X W y c q).2 rfl).2 b
/-! lists -/
def ckNil : KL' := fun _ ys => match ys with
  | [] => true
  | _ => false
def ckCons (k : KE) (ks : KL') : KL' := fun C ys => match ys with
  | y :: r => nst y && k false C y && ks C r
  | [] => false
theorem ckNil_ok : OkL G T F lv ckNil [] := ⟨fun C X W ys c h => by
  cases ys with
  | nil => exact ok_nil
  | cons y r => cases h⟩
theorem ckCons_ok {k : KE} {ks : KL'} {e : E} {es : List E} (h1 : OkE G T F lv k e) (h2 : OkL G T F lv ks es) : OkL G T F lv (ckCons k ks) (e :: es) := ⟨fun C X W ys c h => by
  cases ys with
  | nil => cases h
  | cons y r =>
    simp only [ckCons, Bool.and_eq_true] at h
    exact ok_cons (h1.pe c h.1.2) (h2.run C X W r c h.2) (nst_ok h.1.1)⟩
/-! names, constants -/
def ckVar (i : Nat) : KE := fun t C y => vB t y (match y with
  | .Name x _ => decide (C.N[i]? = some x) && visB C x && okn x
  | _ => false)
theorem ckVar_ok (i : Nat) : OkE G T F lv (ckVar i) (.var i) := ⟨fun t C X W y c h => vB_ok h fun q => by
  cases y <;> try cases q
  simp only [Bool.and_eq_true, decide_eq_true_eq] at q
  exact ok_var F (by rw [c.N]; exact q.1.1) (visB_ok c q.1.2) (okn_d q.2) (okn_c q.2)⟩
def conB (d : D) (y : Expr) : Bool := match y, d with
  | .Constant (.int n) _ _, .int m => decide (n = m)
  | .Constant (.bool a) _ _, .bool b => decide (a = b)
  | .Constant .none _ _, .none => true
  | .Constant (.str s) _ _, .str u => decide (s = u) && decide (s.length ≤ 16777216)
  | _, _ => false
def ckCon (d : D) : KE := fun t C y => vB t y (conB d y)
theorem ckCon_ok (d : D) : OkE G T F lv (ckCon d) (.con d) := ⟨fun t C X W y c h => vB_ok h fun q => by
  unfold conB at q
  split at q
  · obtain rfl := of_decide_eq_true q
    exact ok_con pe_int fun P => .int _
  · obtain rfl := of_decide_eq_true q
    exact ok_con pe_bl fun P => .bl _
  · exact ok_con pe_non fun P => .non
  · simp only [Bool.and_eq_true, decide_eq_true_eq] at q
    obtain ⟨rfl, q⟩ := q
    exact ok_con pe_str fun P => .str _ (by rw [sizeLine_eq]; exact q)
  · cases q⟩
def dI (a b : D) : Bool := match a, b with
  | .int i, .int j => decide (i = j)
  | .str i, .str j => decide (i = j)
  | .bool i, .bool j => decide (i = j)
  | _, _ => false
theorem dI_ok {a b : D} (h : dI a b = true) : a = b := by
  unfold dI at h
  split at h <;> first | (obtain rfl := of_decide_eq_true h; rfl) | cases h
def ckGlob (T : Tb) (x : Str) (d : D) : KE := fun t C y => vB t y (match y with
  | .Name z _ => decide (x = z) && glB C z && okn z && (match T.gls.lookup z with
    | some u => dI u d
    | none => false)
  | _ => false)
theorem ckGlob_ok (x : Str) (d : D) : OkE G T F lv (ckGlob T x d) (.glob x d) := ⟨fun t C X W y c h => vB_ok h fun q => by
  cases y <;> try cases q
  simp only [Bool.and_eq_true] at q
  obtain ⟨⟨⟨_, q1⟩, q2⟩, q3⟩ := q
  split at q3
  · rename_i u hu
    obtain rfl := dI_ok q3
    obtain ⟨w, v, e1, e2, e3⟩ := c.tb.gl _ _ hu
    exact ok_glob (pe_glob (glB_ok c q1) e1 e2 (okn_d q2)) e3
  · cases q3⟩
/-! displays -/
def ckTup (ks : KL') : KE := fun t C y => vB t y (match y with
  | .Tuple ys _ _ => ks C ys
  | _ => false)
theorem ckTup_ok {ks : KL'} {es : List E} (h1 : OkL G T F lv ks es) : OkE G T F lv (ckTup ks) (.tup es) := ⟨fun t C X W y c h => vB_ok h fun q => by
  cases y <;> try cases q
  exact ok_tup (h1.run C X W _ c q)⟩
def ckLst (ks : KL') : KE := fun t C y => vB t y (match y with
  | .List ys _ => ks C ys
  | _ => false)
theorem ckLst_ok {ks : KL'} {es : List E} (h1 : OkL G T F lv ks es) : OkE G T F lv (ckLst ks) (.lst es) := ⟨fun t C X W y c h => vB_ok h fun q => by
  cases y <;> try cases q
  exact ok_lst (h1.run C X W _ c q)⟩
theorem ckNlst_ok {ks : KL'} {es : List E} (h1 : OkL G T F lv ks es) : OkE G T F lv (ckLst ks) (.nlst es) := ⟨fun t C X W y c h => vB_ok h fun q => by
  cases y <;> try cases q
  exact ok_nlst (h1.run C X W _ c q)⟩
/-- a call of a built-in with one plain argument -/
def ckNlist (T : Tb) (k : KE) : KE := fun t C y => vB t y (match y with
  | .Call (.Name x _) [a] [] _ => decide (x = "list") && blB T C x && nst a && k false C a
  | _ => false)
theorem ckNlist_ok {k : KE} {e : E} (h1 : OkE G T F lv k e) : OkE G T F lv (ckNlist T k) (.nlist e) := ⟨fun t C X W y c h => vB_ok h fun q => by
  split at q
  · simp only [Bool.and_eq_true, decide_eq_true_eq] at q
    obtain ⟨⟨⟨rfl, q1⟩, q2⟩, q3⟩ := q
    obtain ⟨g1, g2⟩ := blB_ok c q1
    have hs := nst_ok (env := X.env) (es := []) q2
    exact ok_nlist c.good g1 g2 (ok_cons (h1.pe c q3) ok_nil hs) hs fun hc ha => pe_callTy hc g1 g2 (by decide +kernel) ha (by decide +kernel) (by decide +kernel) hs rfl
  · cases q⟩
/-- range(..): one end or two -/
def rgB (T : Tb) (k1 : KE) (k2 : KE) (n : Nat) (C : Cs) (y : Expr) : Bool := match y, n with
  | .Call (.Name x _) [a] [] _, 1 => decide (x = "range") && blB T C x && nst a && k1 false C a
  | .Call (.Name x _) [a, b] [] _, 2 => decide (x = "range") && blB T C x && nst a && nst b && k1 false C a && k2 false C b
  | _, _ => false
theorem rgB1_ok {k1 k2 : KE} {e : E} (h1 : OkE G T F lv k1 e) (c : CtOk G T F lv X W C) {y : Expr} (q : rgB T k1 k2 1 C y = true) : PRg X y (RG G (evEs F [e]) W) := by
  unfold rgB at q
  split at q
  · simp only [Bool.and_eq_true, decide_eq_true_eq] at q
    obtain ⟨⟨⟨rfl, q1⟩, q2⟩, q3⟩ := q
    obtain ⟨g1, g2⟩ := blB_ok c q1
    exact ok_rg1 g1 g2 (h1.pe c q3) (nst_ok q2)
  · rename_i hn
    cases hn
  · cases q
theorem rgB2_ok {k1 k2 : KE} {e e2 : E} (h1 : OkE G T F lv k1 e) (h2 : OkE G T F lv k2 e2) (c : CtOk G T F lv X W C) {y : Expr} (q : rgB T k1 k2 2 C y = true) : PRg X y (RG G (evEs F [e, e2]) W) := by
  unfold rgB at q
  split at q
  · rename_i hn
    cases hn
  · simp only [Bool.and_eq_true, decide_eq_true_eq] at q
    obtain ⟨⟨⟨⟨⟨rfl, q1⟩, q2⟩, q3⟩, q4⟩, q5⟩ := q
    obtain ⟨g1, g2⟩ := blB_ok c q1
    exact ok_rg2 g1 g2 (h1.pe c q4) (h2.pe c q5) (nst_ok q2) (nst_ok q3)
  · cases q
theorem rgB_nst {k1 k2 : KE} {n : Nat} {y : Expr} (q : rgB T k1 k2 n C y = true) : nst y = true := by
  cases y <;> first | rfl | cases q
/-- x(range(..)) -/
def ckRg (T : Tb) (x : Str) (k1 k2 : KE) (n : Nat) : KE := fun t C y => vB t y (match y with
  | .Call (.Name z _) [a] [] _ => decide (z = x) && blB T C z && rgB T k1 k2 n C a
  | _ => false)
theorem rg_split {x : Str} {k1 k2 : KE} {n : Nat} {y : Expr} (q : (match y with
  | .Call (.Name z _) [a] [] _ => decide (z = x) && blB T C z && rgB T k1 k2 n C a
  | _ => false) = true) : ∃ p a pos, y = .Call (.Name x p) [a] [] pos ∧ blB T C x = true ∧ rgB T k1 k2 n C a = true := by
  split at q
  · simp only [Bool.and_eq_true, decide_eq_true_eq] at q
    obtain ⟨⟨rfl, q1⟩, q2⟩ := q
    exact ⟨_, _, _, rfl, q1, q2⟩
  · cases q
theorem ckNlistR1_ok {k1 : KE} {e : E} (h1 : OkE G T F lv k1 e) : OkE G T F lv (ckRg T "list" k1 k1 1) (.nlistR [e]) := ⟨fun t C X W y c h => vB_ok h fun q => by
  obtain ⟨p, a, pos, rfl, q1, q2⟩ := rg_split q
  obtain ⟨g1, g2⟩ := blB_ok c q1
  exact ok_listR c.good g1 g2 (rgB1_ok h1 c q2) (nst_ok (rgB_nst q2))⟩
theorem ckNlistR2_ok {k1 k2 : KE} {e e2 : E} (h1 : OkE G T F lv k1 e) (h2 : OkE G T F lv k2 e2) : OkE G T F lv (ckRg T "list" k1 k2 2) (.nlistR [e, e2]) := ⟨fun t C X W y c h => vB_ok h fun q => by
  obtain ⟨p, a, pos, rfl, q1, q2⟩ := rg_split q
  obtain ⟨g1, g2⟩ := blB_ok c q1
  exact ok_listR c.good g1 g2 (rgB2_ok h1 h2 c q2) (nst_ok (rgB_nst q2))⟩
theorem ckListR1_ok {k1 : KE} {e : E} (h1 : OkE G T F lv k1 e) : OkE G T F lv (ckRg T "list" k1 k1 1) (.bi .listR [e]) := ⟨fun t C X W y c h => vB_ok h fun q => by
  obtain ⟨p, a, pos, rfl, q1, q2⟩ := rg_split q
  obtain ⟨g1, g2⟩ := blB_ok c q1
  exact ok_listRD c.good g1 g2 (rgB1_ok h1 c q2) (nst_ok (rgB_nst q2))⟩
theorem ckListR2_ok {k1 k2 : KE} {e e2 : E} (h1 : OkE G T F lv k1 e) (h2 : OkE G T F lv k2 e2) : OkE G T F lv (ckRg T "list" k1 k2 2) (.bi .listR [e, e2]) := ⟨fun t C X W y c h => vB_ok h fun q => by
  obtain ⟨p, a, pos, rfl, q1, q2⟩ := rg_split q
  obtain ⟨g1, g2⟩ := blB_ok c q1
  exact ok_listRD c.good g1 g2 (rgB2_ok h1 h2 c q2) (nst_ok (rgB_nst q2))⟩
theorem ckTupR1_ok {k1 : KE} {e : E} (h1 : OkE G T F lv k1 e) : OkE G T F lv (ckRg T "tuple" k1 k1 1) (.bi .tupleR [e]) := ⟨fun t C X W y c h => vB_ok h fun q => by
  obtain ⟨p, a, pos, rfl, q1, q2⟩ := rg_split q
  obtain ⟨g1, g2⟩ := blB_ok c q1
  exact ok_tupRD c.good g1 g2 (rgB1_ok h1 c q2) (nst_ok (rgB_nst q2))⟩
theorem ckTupR2_ok {k1 k2 : KE} {e e2 : E} (h1 : OkE G T F lv k1 e) (h2 : OkE G T F lv k2 e2) : OkE G T F lv (ckRg T "tuple" k1 k2 2) (.bi .tupleR [e, e2]) := ⟨fun t C X W y c h => vB_ok h fun q => by
  obtain ⟨p, a, pos, rfl, q1, q2⟩ := rg_split q
  obtain ⟨g1, g2⟩ := blB_ok c q1
  exact ok_tupRD c.good g1 g2 (rgB2_ok h1 h2 c q2) (nst_ok (rgB_nst q2))⟩
/-- a list that is data from now on -/
def ckFrz (k : KE) : KE := fun t C y => vB t y (k false C y)
theorem ckFrz_ok {k : KE} {e : E} (h1 : OkE G T F lv k e) : OkE G T F lv (ckFrz k) (.frz e) := ⟨fun t C X W y c h => vB_ok h fun q => ok_frz (h1.pe c q)⟩
/-! operators -/
def ckBin (o : B2) (k1 k2 : KE) : KE := fun _ C y => match y with
  | .BinOp a p b _ => decide (bop o = some p) && k1 false C a && k2 false C b
  | .Compare a [p] [b] _ => decide (cop o = some p) && k1 false C a && k2 false C b && !behindInMarks p b
  | _ => false
theorem ckBin_ok {o : B2} {k1 k2 : KE} {e e2 : E} (h1 : OkE G T F lv k1 e) (h2 : OkE G T F lv k2 e2) : OkE G T F lv (ckBin o k1 k2) (.bin o e e2) := ⟨fun t C X W y c q => by
  unfold ckBin at q
  split at q
  · simp only [Bool.and_eq_true, decide_eq_true_eq] at q
    have pe := ok_bin (pos := by assumption) c.good q.1.1 (h1.pe c q.1.2) (h2.pe c q.2)
    exact ⟨fun _ => pe, fun _ => ⟨ok_test pe (fun _ => rfl), fun z => by cases z⟩⟩
  · simp only [Bool.and_eq_true, decide_eq_true_eq, Bool.not_eq_true'] at q
    obtain ⟨⟨⟨q1, q2⟩, q3⟩, q4⟩ := q
    exact ⟨fun _ => ok_cmp c.good q1 (h1.pe c q2) (h2.pe c q3) q4, fun _ => ⟨ok_cmpT c.good q1 (h1.pe c q2) (h2.pe c q3) q4, fun z => by cases z⟩⟩
  · cases q⟩
def ckChain (o p : B2) (k1 k2 k3 : KE) : KE := fun _ C y => match y with
  | .Compare a [q, r] [b, d] _ => decide (cop o = some q) && decide (cop p = some r) && k1 false C a && k2 false C b && k3 false C d && !lastMarks [q, r] [b, d]
  | _ => false
theorem ckChain_ok {o p : B2} {k1 k2 k3 : KE} {e e2 e3 : E} (h1 : OkE G T F lv k1 e) (h2 : OkE G T F lv k2 e2) (h3 : OkE G T F lv k3 e3) : OkE G T F lv (ckChain o p k1 k2 k3) (.chain o p e e2 e3) := ⟨fun t C X W y c q => by
  unfold ckChain at q
  split at q
  · simp only [Bool.and_eq_true, decide_eq_true_eq, Bool.not_eq_true'] at q
    obtain ⟨⟨⟨⟨⟨q1, q2⟩, q3⟩, q4⟩, q5⟩, q6⟩ := q
    exact ⟨fun _ => ok_chain c.good q1 q2 (h1.pe c q3) (h2.pe c q4) (h3.pe c q5) q6, fun _ => ⟨ok_chainT c.good q1 q2 (h1.pe c q3) (h2.pe c q4) (h3.pe c q5) q6, fun z => by cases z⟩⟩
  · cases q⟩
def ckNeg (k : KE) : KE := fun t C y => vB t y (match y with
  | .UnaryOp .USub a _ => k false C a
  | _ => false)
theorem ckNeg_ok {k : KE} {e : E} (h1 : OkE G T F lv k e) : OkE G T F lv (ckNeg k) (.un .neg e) := ⟨fun t C X W y c h => vB_ok h fun q => by
  split at q
  · exact ok_neg (h1.pe c q)
  · cases q⟩
def ckNot (k : KE) : KE := fun t C y => match y with
  | .UnaryOp .Not a _ => k t C a
  | _ => false
theorem ckNot_ok {k : KE} {e : E} (h1 : OkE G T F lv k e) : OkE G T F lv (ckNot k) (.un .not_ e) := ⟨fun t C X W y c q => by
  unfold ckNot at q
  split at q
  · cases t with
    | false => exact ⟨fun _ => ok_not (h1.pe c q), fun z => by cases z⟩
    | true => exact ⟨fun z => (by cases z), fun _ => ⟨ok_notT (h1.pt c q), fun z => by cases z⟩⟩
  · cases q⟩
def ckAnd (k1 k2 : KE) : KE := fun t C y => match y with
  | .BoolOp .And [a, b] _ => k1 t C a && k2 t C b
  | .BoolOp .And (a :: b :: r) p => k1 t C a && k2 t C (.BoolOp .And (b :: r) p)
  | _ => false
theorem ckAnd_ok {k1 k2 : KE} {e e2 : E} (h1 : OkE G T F lv k1 e) (h2 : OkE G T F lv k2 e2) : OkE G T F lv (ckAnd k1 k2) (.and_ e e2) := ⟨fun t C X W y c q => by
  unfold ckAnd at q
  split at q
  · simp only [Bool.and_eq_true] at q
    cases t with
    | false => exact ⟨fun _ => ok_and (h1.pe c q.1) (pe_one (h2.pe c q.2)), fun z => by cases z⟩
    | true =>
      have pw := fun p => ok_andW (pos := p) (h1.pt c q.1) (pw_and1 (h2.pt c q.2))
      exact ⟨fun z => (by cases z), fun _ => ⟨(pw _).pt, fun _ => pw _⟩⟩
  · simp only [Bool.and_eq_true] at q
    cases t with
    | false => exact ⟨fun _ => ok_and (h1.pe c q.1) (h2.pe c q.2), fun z => by cases z⟩
    | true =>
      have pw := ok_andW (h1.pt c q.1) (h2.pw c q.2 rfl)
      exact ⟨fun z => (by cases z), fun _ => ⟨pw.pt, fun _ => pw⟩⟩
  · cases q⟩
def ckOr (k1 k2 : KE) : KE := fun t C y => match y with
  | .BoolOp .Or [a, b] _ => k1 t C a && k2 t C b
  | .BoolOp .Or (a :: b :: r) p => k1 t C a && k2 t C (.BoolOp .Or (b :: r) p)
  | _ => false
theorem ckOr_ok {k1 k2 : KE} {e e2 : E} (h1 : OkE G T F lv k1 e) (h2 : OkE G T F lv k2 e2) : OkE G T F lv (ckOr k1 k2) (.or_ e e2) := ⟨fun t C X W y c q => by
  unfold ckOr at q
  split at q
  · simp only [Bool.and_eq_true] at q
    cases t with
    | false => exact ⟨fun _ => ok_or (h1.pe c q.1) (pe_one (h2.pe c q.2)), fun z => by cases z⟩
    | true =>
      have pw := fun p => ok_orW (pos := p) (h1.pt c q.1) (pw_or1 (h2.pt c q.2))
      exact ⟨fun z => (by cases z), fun _ => ⟨(pw _).pt, fun _ => pw _⟩⟩
  · simp only [Bool.and_eq_true] at q
    cases t with
    | false => exact ⟨fun _ => ok_or (h1.pe c q.1) (h2.pe c q.2), fun z => by cases z⟩
    | true =>
      have pw := ok_orW (h1.pt c q.1) (h2.pw c q.2 rfl)
      exact ⟨fun z => (by cases z), fun _ => ⟨pw.pt, fun _ => pw⟩⟩
  · cases q⟩
def ckIfe (k1 k2 k3 : KE) : KE := fun t C y => vB t y (match y with
  | .IfExp a b d _ => k1 true C a && k2 false C b && k3 false C d
  | _ => false)
theorem ckIfe_ok {k1 k2 k3 : KE} {e e2 e3 : E} (h1 : OkE G T F lv k1 e) (h2 : OkE G T F lv k2 e2) (h3 : OkE G T F lv k3 e3) : OkE G T F lv (ckIfe k1 k2 k3) (.ife e e2 e3) := ⟨fun t C X W y c h => vB_ok h fun q => by
  split at q
  · simp only [Bool.and_eq_true] at q
    exact ok_ife (h1.pt c q.1.1) (h2.pe c q.1.2) (h3.pe c q.2)
  · cases q⟩
def ckIdx (k1 k2 : KE) : KE := fun t C y => vB t y (match y with
  | .Subscript a b _ => plainIxB b && k1 false C a && k2 false C b
  | _ => false)
theorem ckIdx_ok {k1 k2 : KE} {e e2 : E} (h1 : OkE G T F lv k1 e) (h2 : OkE G T F lv k2 e2) : OkE G T F lv (ckIdx k1 k2) (.idx e e2) := ⟨fun t C X W y c h => vB_ok h fun q => by
  split at q
  · simp only [Bool.and_eq_true] at q
    exact ok_idx c.good (h1.pe c q.1.2) (h2.pe c q.2) (plainIxB_ok q.1.1)
  · cases q⟩
/-- a slice's end -/
structure OkO (G : GI) (T : Tb) (F : CallS) (lv : Nat) (k : Cs → Option Expr → Bool) (es : List E) : Prop where
  run : ∀ (C : Cs) (X : Cx) (W : XK) (o : Option Expr), CtOk G T F lv X W C → k C o = true → PO X o (RO G (evEs F es) W)
def ckO0 : Cs → Option Expr → Bool := fun _ o => o.isNone
def ckO1 (k : KE) : Cs → Option Expr → Bool := fun C o => match o with
  | some a => k false C a
  | none => false
theorem ckO0_ok : OkO G T F lv ckO0 [] := ⟨fun C X W o c h => by
  cases o with
  | none => exact ok_po0
  | some a => cases h⟩
theorem ckO1_ok {k : KE} {e : E} (h1 : OkE G T F lv k e) : OkO G T F lv (ckO1 k) [e] := ⟨fun C X W o c h => by
  cases o with
  | none => cases h
  | some a => exact ok_po1 (h1.pe c h)⟩
def ckSlice (k1 : KE) (k2 k3 : Cs → Option Expr → Bool) : KE := fun t C y => vB t y (match y with
  | .Subscript a (.Slice l u none _) _ => k1 false C a && k2 C l && k3 C u
  | _ => false)
theorem ckSlice_ok {k1 : KE} {k2 k3 : Cs → Option Expr → Bool} {e : E} {el eu : List E} (h1 : OkE G T F lv k1 e) (h2 : OkO G T F lv k2 el) (h3 : OkO G T F lv k3 eu) : OkE G T F lv (ckSlice k1 k2 k3) (.slice e el eu) := ⟨fun t C X W y c h => vB_ok h fun q => by
  split at q
  · simp only [Bool.and_eq_true] at q
    exact ok_slice c.good (h1.pe c q.1.1) (h2.run C X W _ c q.1.2) (h3.run C X W _ c q.2)
  · cases q⟩
/-! built-ins -/
def biN : BI → Option Str
  | .abs => some "abs" | .len => some "len" | .all => some "all" | .any => some "any" | .sum => some "sum" | .min => some "min" | .max => some "max"
  | .int => some "int" | .str => some "str" | .tuple => some "tuple" | .list => some "list"
  | _ => none
def ckBi (T : Tb) (f : BI) (ks : KL') : KE := fun t C y => vB t y (match y with
  | .Call (.Name x _) (a :: as) [] _ => decide (biN f = some x) && blB T C x && nst a && nstL as && ks C (a :: as)
  | _ => false)
theorem ckBi_ok {f : BI} {ks : KL'} {es : List E} (h1 : OkL G T F lv ks es) : OkE G T F lv (ckBi T f ks) (.bi f es) := ⟨fun t C X W y c h => vB_ok h fun q => by
  split at q
  · rename_i x p a as pos
    simp only [Bool.and_eq_true, decide_eq_true_eq] at q
    obtain ⟨⟨⟨⟨q0, q1⟩, q2⟩, q3⟩, q4⟩ := q
    obtain ⟨g1, g2⟩ := blB_ok c q1
    have ha := h1.run C X W _ c q4
    have he := nst_ok (env := X.env) (es := as) q2
    have hpl := nstL_ok (env := X.env) (p := pos) q3
    cases f <;> simp only [biN, Option.some.injEq, reduceCtorEq] at q0 <;> subst q0
    · exact PE.monoR (pe_callB ok_abs g1 g2 (by decide +kernel) ha (by decide +kernel) (by decide +kernel) he hpl) bi_core
    · exact PE.monoR (pe_callB (ok_len c.good.hK) g1 g2 (by decide +kernel) ha (by decide +kernel) (by decide +kernel) he hpl) bi_core
    · exact PE.monoR (pe_callTy ok_int g1 g2 (by decide +kernel) ha (by decide +kernel) (by decide +kernel) he hpl) bi_core
    · exact PE.monoR (pe_callTy ok_str g1 g2 (by decide +kernel) ha (by decide +kernel) (by decide +kernel) he hpl) bi_core
    · exact PE.monoR (pe_callTy (ok_tuple c.good.hK) g1 g2 (by decide +kernel) ha (by decide +kernel) (by decide +kernel) he hpl) bi_core
    · exact PE.monoR (pe_callTy (ok_list c.good.hK) g1 g2 (by decide +kernel) ha (by decide +kernel) (by decide +kernel) he hpl) bi_core
    · exact PE.monoR (pe_callB (ok_all c.good) g1 g2 (by decide +kernel) ha (by decide +kernel) (by decide +kernel) he hpl) bi_core
    · exact PE.monoR (pe_callB (ok_any c.good) g1 g2 (by decide +kernel) ha (by decide +kernel) (by decide +kernel) he hpl) bi_core
    · exact PE.monoR (pe_callB (ok_sum c.good) g1 g2 (by decide +kernel) ha (by decide +kernel) (by decide +kernel) he hpl) bi_core
    · exact PE.monoR (pe_callB (ok_min c.good) g1 g2 (by decide +kernel) ha (by decide +kernel) (by decide +kernel) he hpl) bi_core
    · exact PE.monoR (pe_callB (ok_max c.good) g1 g2 (by decide +kernel) ha (by decide +kernel) (by decide +kernel) he hpl) bi_core
  · cases q⟩
def ckIsi (T : Tb) (f : BI) (k : KE) : KE := fun t C y => vB t y (match y with
  | .Call (.Name x _) [a, .Name z _] [] _ => decide (x = "isinstance") && blB T C x && blB T C z && nst a && k false C a && (match biTy f with
    | some s => decide (z = Str.ofString s)
    | none => false)
  | _ => false)
theorem ckIsi_ok {f : BI} {k : KE} {e : E} (h1 : OkE G T F lv k e) : OkE G T F lv (ckIsi T f k) (.bi f [e]) := ⟨fun t C X W y c h => vB_ok h fun q => by
  split at q
  · rename_i x p a z p2 pos
    simp only [Bool.and_eq_true, decide_eq_true_eq] at q
    obtain ⟨⟨⟨⟨⟨rfl, q1⟩, q2⟩, q3⟩, q4⟩, q5⟩ := q
    obtain ⟨g1, g2⟩ := blB_ok c q1
    obtain ⟨g3, g4⟩ := blB_ok c q2
    split at q5
    · rename_i S hS
      obtain rfl := of_decide_eq_true q5
      have hS' := hS
      cases f <;> simp only [biTy, Option.some.injEq, reduceCtorEq] at hS <;> subst hS <;>
        exact ok_isinst c.good hS' g1 g2 g3 g4 (by decide +kernel) (by decide +kernel) (by decide +kernel) (h1.pe c q4) (nst_ok q3)
    · cases q5
  · cases q⟩
def ckLenset (T : Tb) (k : KE) : KE := fun t C y => vB t y (match y with
  | .Call (.Name x _) [.Call (.Name z _) [a] [] _] [] _ => decide (x = "len") && decide (z = "set") && blB T C x && blB T C z && nst a && k false C a
  | _ => false)
theorem ckLenset_ok {k : KE} {e : E} (h1 : OkE G T F lv k e) : OkE G T F lv (ckLenset T k) (.bi .lenset [e]) := ⟨fun t C X W y c h => vB_ok h fun q => by
  split at q
  · simp only [Bool.and_eq_true, decide_eq_true_eq] at q
    obtain ⟨⟨⟨⟨⟨rfl, rfl⟩, q1⟩, q2⟩, q3⟩, q4⟩ := q
    obtain ⟨g1, g2⟩ := blB_ok c q1
    obtain ⟨g3, g4⟩ := blB_ok c q2
    exact ok_lenset c.good g1 g2 g3 g4 (h1.pe c q4) (nst_ok q3)
  · cases q⟩
/-! calls -/
def ckCall (T : Tb) (f n : Nat) (ks : KL') : KE := fun t C y => vB t y (match y with
  | .Call (.Name x _) as [] _ => glB C x && okn x && nstL as && decide (as.length = n) && ks C as && decide (T.nms[f]? = some x)
  | _ => false)
theorem nst_of {a : Expr} {as : List Expr} (h : nstL (a :: as) = true) : nst a = true ∧ nstL as = true := by
  simp only [nstL, List.all_cons, Bool.and_eq_true] at h
  exact h
theorem ckCall_ok {f : Nat} {ks : KL'} {es : List E} (h1 : OkL G T F lv ks es) : OkE G T F lv (ckCall T f es.length ks) (.call f es) := ⟨fun t C X W y c h => vB_ok h fun q => by
  split at q
  · rename_i x p as pos
    simp only [Bool.and_eq_true, decide_eq_true_eq] at q
    obtain ⟨⟨⟨⟨⟨q1, q2⟩, q3⟩, q6⟩, q4⟩, q5⟩ := q
    obtain ⟨m1, m2, m3, m4⟩ := c.tb.fn f x q5
    cases as with
    | nil =>
      obtain rfl : es = [] := List.eq_nil_of_length_eq_zero q6.symm
      exact ok_call0 c.good m4 c.room (glB_ok c q1) m1 m2 m3 (okn_d q2)
    | cons a as =>
      obtain ⟨n1, n2⟩ := nst_of q3
      exact ok_call c.good m4 c.room (glB_ok c q1) m1 m2 m3 (h1.run C X W _ c q4) (okn_d q2) (nst_ok n1) (nstL_ok n2)
  · cases q⟩
/-- keywords -/
structure OkK (G : GI) (T : Tb) (F : CallS) (lv : Nat) (k : Cs → List Keyword → Bool) (es : List E) : Prop where
  run : ∀ (C : Cs) (X : Cx) (W : XK) (ys : List Keyword), CtOk G T F lv X W C → k C ys = true → PK X ys (RL G (evEs F es) W)
def ckKnil : Cs → List Keyword → Bool := fun _ ys => match ys with
  | [] => true
  | _ => false
def ckKcons (k : KE) (ks : Cs → List Keyword → Bool) : Cs → List Keyword → Bool := fun C ys => match ys with
  | ⟨_, a, _⟩ :: r => k false C a && ks C r
  | [] => false
theorem ckKnil_ok : OkK G T F lv ckKnil [] := ⟨fun C X W ys c h => by
  cases ys with
  | nil => exact ok_knil
  | cons y r => cases h⟩
theorem ckKcons_ok {k : KE} {ks : Cs → List Keyword → Bool} {e : E} {es : List E} (h1 : OkE G T F lv k e) (h2 : OkK G T F lv ks es) : OkK G T F lv (ckKcons k ks) (e :: es) := ⟨fun C X W ys c h => by
  cases ys with
  | nil => cases h
  | cons y r =>
    obtain ⟨nm, a, kp⟩ := y
    simp only [ckKcons, Bool.and_eq_true] at h
    exact ok_kcons (h1.pe c h.1) (h2.run C X W r c h.2)⟩
theorem kw_names {env : PySem.Env} {p : Pos} : ∀ {kws : List Keyword}, (backToKw p (keywordEach kws env)).map (·.1) = kws.map (·.arg)
  | [] => rfl
  | ⟨nm, a, kp⟩ :: r => by
    show nm :: (backToKw p (keywordEach r env)).map (·.1) = nm :: r.map (·.arg)
    rw [kw_names (kws := r)]
theorem all_of_map {α β : Type} (f : α → β) (g : β → Bool) (l : List α) : l.all (fun x => g (f x)) = (l.map f).all g := by
  induction l with
  | nil => rfl
  | cons a l ih => simp [ih]
theorem kw_all {env : PySem.Env} {p : Pos} {kws : List Keyword} {ks : List Str} (h : kws.map (·.arg) = ks.map some) : (backToKw p (keywordEach kws env)).all (·.1.isSome) = true ∧ (backToKw p (keywordEach kws env)).filterMap (·.1) = ks ∧ (backToKw p (keywordEach kws env)).any (·.1.isNone) = false := by
  have e := kw_names (env := env) (p := p) (kws := kws)
  rw [h] at e
  generalize backToKw p (keywordEach kws env) = l at e
  refine ⟨?_, ?_, ?_⟩
  · rw [all_of_map (fun x : Option Str × Sem Value => x.1) Option.isSome l, e]
    simp
  · rw [show l.filterMap (fun x => x.1) = (l.map (·.1)).filterMap id by rw [List.filterMap_map]; rfl, e]
    simp
  · rw [show l.any (fun x => x.1.isNone) = (l.map (·.1)).any Option.isNone by rw [List.any_map]; rfl, e]
    simp
def ckCallk (T : Tb) (f n : Nat) (ks : KL') (kk : Cs → List Keyword → Bool) (nk : Nat) (perm : List Nat) : KE := fun t C y => vB t y (match y with
  | .Call (.Name x _) as kws _ => glB C x && okn x && nstL as && decide (as.length = n) && ks C as && kk C kws && decide (T.nms[f]? = some x) && (T.kws.any fun q => decide (q.1 = f) && decide (q.2.1 = n) && decide (q.2.2.1.length = nk) && decide (q.2.2.2 = perm) && decide (kws.map (·.arg) = q.2.2.1.map some))
  | _ => false)
theorem ckCallk_ok {f : Nat} {ks : KL'} {kk : Cs → List Keyword → Bool} {es eks : List E} {perm : List Nat} (h1 : OkL G T F lv ks es) (h2 : OkK G T F lv kk eks) : OkE G T F lv (ckCallk T f es.length ks kk eks.length perm) (.callk f es eks perm) := ⟨fun t C X W y c h => vB_ok h fun q => by
  split at q
  · rename_i x p as kws pos
    simp only [Bool.and_eq_true, decide_eq_true_eq] at q
    obtain ⟨⟨⟨⟨⟨⟨⟨q1, q2⟩, q3⟩, q6⟩, q4⟩, q7⟩, q5⟩, q8⟩ := q
    obtain ⟨⟨f', n', kn, pm⟩, hm, hq⟩ := List.any_eq_true.mp q8
    simp only [Bool.and_eq_true, decide_eq_true_eq] at hq
    obtain ⟨⟨⟨⟨rfl, rfl⟩, hk⟩, rfl⟩, hq⟩ := hq
    obtain ⟨a1, a2, a3⟩ := kw_all (env := X.env) (p := pos) hq
    obtain ⟨m1, m2, m3, m4⟩ := c.tb.fn _ x q5
    have kwo := c.tb.kw _ _ _ _ hm
    cases as with
    | nil =>
      obtain rfl : es = [] := List.eq_nil_of_length_eq_zero q6.symm
      exact ok_callk0 c.good m4 c.room (glB_ok c q1) m1 m2 kwo (h2.run C X W _ c q7) hk.symm a1 a2 (okn_d q2) (by rw [a3]; rfl)
    | cons a as =>
      obtain ⟨n1, n2⟩ := nst_of q3
      exact ok_callk c.good m4 c.room (glB_ok c q1) m1 m2 kwo (h1.run C X W _ c q4) (h2.run C X W _ c q7) rfl hk.symm a1 a2 (okn_d q2) (nst_ok n1) (by rw [a3, nstL_ok q3]; rfl)
  · cases q⟩
/-! methods of lists -/
def nameB : Expr → Bool
  | .Name .. => true
  | _ => false
def ckMeth0 (k : KE) : KE := fun t C y => vB t y (match y with
  | .Call (.Attribute o nm ap) [] [] p => decide (nm = "pop") && nameB o && (ap.endLine == p.line) && k false C o
  | _ => false)
theorem ckPop_ok {k : KE} {e : E} (h1 : OkE G T F lv k e) : OkE G T F lv (ckMeth0 k) (.meth .pop e []) := ⟨fun t C X W y c h => vB_ok h fun q => by
  split at q
  · rename_i o nm ap p
    simp only [Bool.and_eq_true, decide_eq_true_eq] at q
    obtain ⟨⟨⟨rfl, q1⟩, q2⟩, q3⟩ := q
    cases o <;> try cases q1
    exact ok_pop c.good (h1.pe c q3) rfl q2
  · cases q⟩
def ckMeth1 (x : Str) (k k2 : KE) : KE := fun t C y => vB t y (match y with
  | .Call (.Attribute o nm ap) [a] [] p => decide (nm = x) && nameB o && (ap.endLine == p.line) && nst a && k false C o && k2 false C a
  | _ => false)
theorem ckAppend_ok {k k2 : KE} {e e2 : E} (h1 : OkE G T F lv k e) (h2 : OkE G T F lv k2 e2) : OkE G T F lv (ckMeth1 "append" k k2) (.meth .append e [e2]) := ⟨fun t C X W y c h => vB_ok h fun q => by
  split at q
  · rename_i o nm ap a p
    simp only [Bool.and_eq_true, decide_eq_true_eq] at q
    obtain ⟨⟨⟨⟨⟨rfl, q1⟩, q2⟩, q3⟩, q4⟩, q5⟩ := q
    cases o <;> try cases q1
    exact ok_append c.good (h1.pe c q4) (ok_cons (h2.pe c q5) ok_nil (nst_ok q3)) rfl q2 (nst_ok q3)
  · cases q⟩
theorem ckPopAt_ok {k k2 : KE} {e e2 : E} (h1 : OkE G T F lv k e) (h2 : OkE G T F lv k2 e2) : OkE G T F lv (ckMeth1 "pop" k k2) (.meth .popAt e [e2]) := ⟨fun t C X W y c h => vB_ok h fun q => by
  split at q
  · rename_i o nm ap a p
    simp only [Bool.and_eq_true, decide_eq_true_eq] at q
    obtain ⟨⟨⟨⟨⟨rfl, q1⟩, q2⟩, q3⟩, q4⟩, q5⟩ := q
    cases o <;> try cases q1
    exact ok_popAt c.good (h1.pe c q4) (ok_cons (h2.pe c q5) ok_nil (nst_ok q3)) rfl q2 (nst_ok q3)
  · cases q⟩
/-! targets -/
mutual
def ckTg : Tg → Cs → Expr → Bool
  | .nm i, C, y => (match y with
    | .Name x _ => decide (C.N[i]? = some x) && locB C x
    | _ => false)
  | .tup ts, C, y => (match y with
    | .Tuple es _ _ => ckTgs ts C es
    | _ => false)
def ckTgs : List Tg → Cs → List Expr → Bool
  | [], _, ys => ys.isEmpty
  | t :: ts, C, ys => (match ys with
    | y :: r => nst y && ckTg t C y && ckTgs ts C r
    | [] => false)
end
theorem asg_nst {e : Expr} {es : List Expr} {env : PySem.Env} (h : nst e = true) : assignEach (e :: es) env = (false, assign e env) :: assignEach es env := by
  cases e <;> first | rfl | cases h
theorem asg_nstL {env : PySem.Env} : ∀ {es : List Expr}, nstL es = true → (assignEach es env).length = es.length ∧ (assignEach es env).findIdx? (·.1) = none
  | [], _ => ⟨rfl, rfl⟩
  | e :: es, h => by
    obtain ⟨h1, h2⟩ := nst_of h
    obtain ⟨i1, i2⟩ := asg_nstL (env := env) h2
    rw [asg_nst h1]
    refine ⟨by simp [i1], ?_⟩
    rw [List.findIdx?_cons]
    simp [i2]
mutual
theorem ckTg_ok : ∀ (t : Tg) {C : Cs} {X : Cx} {W : XK} {y : Expr}, CtOk G T F lv X W C → ckTg t C y = true → PG X y (GT G t)
  | .nm i, C, X, W, y, c, h => by
    simp only [ckTg] at h
    split at h
    · simp only [Bool.and_eq_true, decide_eq_true_eq] at h
      obtain ⟨h1, h2⟩ := locB_ok c h.2
      exact ok_gnm c.good.nd (by rw [c.N]; exact h.1) h1 h2
    · cases h
  | .tup ts, C, X, W, y, c, h => by
    simp only [ckTg] at h
    split at h
    · obtain ⟨h1, h2, h3⟩ := ckTgs_ok ts c h
      obtain ⟨i1, i2⟩ := asg_nstL (env := X.env) h2
      exact ok_gtup c.good h1 (i1.trans h3) i2
    · cases h
theorem ckTgs_ok : ∀ (ts : List Tg) {C : Cs} {X : Cx} {W : XK} {ys : List Expr}, CtOk G T F lv X W C → ckTgs ts C ys = true → PGs X ys (GTs G ts) ∧ nstL ys = true ∧ ys.length = ts.length
  | [], C, X, W, ys, c, h => by
    simp only [ckTgs] at h
    cases ys with
    | nil => exact ⟨ok_gnil, rfl, rfl⟩
    | cons y r => cases h
  | t :: ts, C, X, W, ys, c, h => by
    simp only [ckTgs] at h
    cases ys with
    | nil => cases h
    | cons y r =>
      simp only [Bool.and_eq_true] at h
      obtain ⟨i1, i2, i3⟩ := ckTgs_ok ts c h.2
      refine ⟨ok_gcons (ckTg_ok t c h.1.2) i1 (by rw [asg_nst h.1.1]; rfl), ?_, by simp [i3]⟩
      simp only [nstL, List.all_cons, Bool.and_eq_true]
      exact ⟨h.1.1, i2⟩
end
/-! what is walked -/
structure OkI (G : GI) (T : Tb) (F : CallS) (lv : Nat) (k : IK) (ki : Cs → Expr → Expr → Bool) (its : List E) : Prop where
  run : ∀ (C : Cs) (X : Cx) (W : XK) (tg y : Expr), CtOk G T F lv X W C → ki C tg y = true → PI X tg y (RI G k (evEs F its) W) ∧ notSet y = true
def ckIseq (k : KE) : Cs → Expr → Expr → Bool := fun C _ y => notSet y && k false C y
theorem ckIseq_ok {k : KE} {e : E} (h1 : OkE G T F lv k e) : OkI G T F lv .seq (ckIseq k) [e] := ⟨fun C X W tg y c h => by
  simp only [ckIseq, Bool.and_eq_true] at h
  exact ⟨ok_iseq c.good (h1.pe c h.2), h.1⟩⟩
def ckIr1 (T : Tb) (k : KE) : Cs → Expr → Expr → Bool := fun C _ y => rgB T k k 1 C y
def ckIr2 (T : Tb) (k k2 : KE) : Cs → Expr → Expr → Bool := fun C _ y => rgB T k k2 2 C y
theorem nst1 {a : Expr} {env : PySem.Env} (h : nst a = true) : starEach [a] env = [(false, eval a env)] := nst_ok h
theorem ckIr1_ok {k : KE} {e : E} (h1 : OkE G T F lv k e) : OkI G T F lv .range (ckIr1 T k) [e] := ⟨fun C X W tg y c q => by
  unfold ckIr1 rgB at q
  split at q
  · simp only [Bool.and_eq_true, decide_eq_true_eq] at q
    obtain ⟨⟨⟨rfl, q1⟩, q2⟩, q3⟩ := q
    obtain ⟨g1, g2⟩ := blB_ok c q1
    exact ⟨ok_irange1 g1 g2 (ok_cons (h1.pe c q3) ok_nil (nst_ok q2)) (nst1 q2), rfl⟩
  · rename_i hn
    cases hn
  · cases q⟩
theorem ckIr2_ok {k k2 : KE} {e e2 : E} (h1 : OkE G T F lv k e) (h2 : OkE G T F lv k2 e2) : OkI G T F lv .range (ckIr2 T k k2) [e, e2] := ⟨fun C X W tg y c q => by
  unfold ckIr2 rgB at q
  split at q
  · rename_i hn
    cases hn
  · simp only [Bool.and_eq_true, decide_eq_true_eq] at q
    obtain ⟨⟨⟨⟨⟨rfl, q1⟩, q2⟩, q3⟩, q4⟩, q5⟩ := q
    obtain ⟨g1, g2⟩ := blB_ok c q1
    exact ⟨ok_irange2 g1 g2 (ok_cons (h1.pe c q4) (ok_cons (h2.pe c q5) ok_nil (nst_ok q3)) (nst_ok q2)) (by rw [nst_ok q2, nst1 q3]) (nst1 q3), rfl⟩
  · cases q⟩
def ckIenum (T : Tb) (k : KE) : Cs → Expr → Expr → Bool := fun C tg y => match tg, y with
  | .Tuple _ _ _, .Call (.Name x _) [a] [] _ => decide (x = "enumerate") && blB T C x && nst a && k false C a
  | _, _ => false
theorem ckIenum_ok {k : KE} {e : E} (h1 : OkE G T F lv k e) : OkI G T F lv .enum (ckIenum T k) [e] := ⟨fun C X W tg y c q => by
  unfold ckIenum at q
  split at q
  · simp only [Bool.and_eq_true, decide_eq_true_eq] at q
    obtain ⟨⟨⟨rfl, q1⟩, q2⟩, q3⟩ := q
    obtain ⟨g1, g2⟩ := blB_ok c q1
    exact ⟨ok_ienum c.good g1 g2 (ok_cons (h1.pe c q3) ok_nil (nst_ok q2)) (nst_ok q2), rfl⟩
  · cases q⟩
def ckIzip (T : Tb) (k k2 : KE) : Cs → Expr → Expr → Bool := fun C tg y => match tg, y with
  | .Tuple _ _ _, .Call (.Name x _) [a, b] [] _ => decide (x = "zip") && blB T C x && nst a && nst b && k false C a && k2 false C b
  | _, _ => false
theorem ckIzip_ok {k k2 : KE} {e e2 : E} (h1 : OkE G T F lv k e) (h2 : OkE G T F lv k2 e2) : OkI G T F lv .zip (ckIzip T k k2) [e, e2] := ⟨fun C X W tg y c q => by
  unfold ckIzip at q
  split at q
  · simp only [Bool.and_eq_true, decide_eq_true_eq] at q
    obtain ⟨⟨⟨⟨⟨rfl, q1⟩, q2⟩, q3⟩, q4⟩, q5⟩ := q
    obtain ⟨g1, g2⟩ := blB_ok c q1
    exact ⟨ok_izip c.good g1 g2 (ok_cons (h1.pe c q4) (ok_cons (h2.pe c q5) ok_nil (nst_ok q3)) (nst_ok q2)) (nst_ok q2) (by rw [nst1 q3]; rfl), rfl⟩
  · cases q⟩
/-! tests of a clause -/
structure OkT (G : GI) (T : Tb) (F : CallS) (lv : Nat) (k : Cs → List Expr → Bool) (es : List E) : Prop where
  run : ∀ (C : Cs) (X : Cx) (W : XK) (ys : List Expr), CtOk G T F lv X W C → k C ys = true → PTs X ys (RT G (evTs F es) W)
def ckT0 : Cs → List Expr → Bool := fun _ ys => ys.isEmpty
def ckT1 (k : KE) : Cs → List Expr → Bool := fun C ys => match ys with
  | [a] => k true C a
  | _ => false
theorem ckT0_ok : OkT G T F lv ckT0 [] := ⟨fun C X W ys c h => by
  cases ys with
  | nil => exact ok_ts0
  | cons y r => cases h⟩
theorem ckT1_ok {k : KE} {e : E} (h1 : OkE G T F lv k e) : OkT G T F lv (ckT1 k) [e] := ⟨fun C X W ys c h => by
  unfold ckT1 at h
  split at h
  · exact ok_ts1 (h1.pt c h)
  · cases h⟩
/-! comprehensions -/
def ownP (C : Cs) (own : List Nat) : List (Str × Nat) := own.map fun i => ((C.N[i]?).getD ⟨#[]⟩, i)
theorem ownP_snd (C : Cs) (own : List Nat) : (ownP C own).map (·.2) = own := by
  unfold ownP
  rw [List.map_map]
  exact List.map_id own
def compB (ke : KE) (t : Tg) (ki : Cs → Expr → Expr → Bool) (kt : Cs → List Expr → Bool) (own : List Nat) (C : Cs) (y : Expr) : Bool := match y with
  | .ListComp elt [⟨tg, iter, ifs, a⟩] scope _ => decide (a = 0) && ki C tg iter && blkC C.N C.sc scope (ownP C own) && ((tgs t).all fun i => decide (i ∈ own)) && ckTg t (C.blk scope) tg && kt (C.blk scope) ifs && ke false (C.blk scope) elt
  | _ => false
def ckComp (ke : KE) (t : Tg) (ki : Cs → Expr → Expr → Bool) (kt : Cs → List Expr → Bool) (own : List Nat) : KE := fun tt C y => vB tt y (compB ke t ki kt own C y)
structure CompF (G : GI) (T : Tb) (F : CallS) (lv : Nat) (X : Cx) (W : XK) (C : Cs) (e : E) (t : Tg) (k : IK) (its eifs : List E) (own : List Nat) (y : Expr) : Prop where
  ex : ∃ elt tg iter ifs scope pos, y = .ListComp elt [⟨tg, iter, ifs, 0⟩] scope pos ∧ PI X tg iter (RI G k (evEs F its) W) ∧ BlkOk X.N X.env.scope scope (ownP C own) ∧ (∀ i ∈ tgs t, i ∈ (ownP C own).map (·.2)) ∧
    (BlkP X scope fun X => PG X tg (GT G t)) ∧ (BlkP X scope fun X => PTs X ifs (RT G (evTs F eifs) W0)) ∧ (BlkP X scope fun X => PE X elt (RE G (evE F e) W0)) ∧ ∀ x, foldedSetIterable iter X.env x = pure x
theorem compB_ok {ke : KE} {t : Tg} {ki : Cs → Expr → Expr → Bool} {kt : Cs → List Expr → Bool} {own : List Nat} {e : E} {k : IK} {its eifs : List E} (h1 : OkE G T F lv ke e) (h2 : OkI G T F lv k ki its) (h3 : OkT G T F lv kt eifs) (c : CtOk G T F lv X W C) {y : Expr} (q : compB ke t ki kt own C y = true) : CompF G T F lv X W C e t k its eifs own y := by
  unfold compB at q
  split at q
  · rename_i elt tg iter ifs a scope pos
    simp only [Bool.and_eq_true, decide_eq_true_eq, List.all_eq_true] at q
    obtain ⟨⟨⟨⟨⟨⟨rfl, q1⟩, q2⟩, q3⟩, q4⟩, q5⟩, q6⟩ := q
    obtain ⟨i1, i2⟩ := h2.run C X W tg iter c q1
    refine ⟨elt, tg, iter, ifs, scope, pos, rfl, i1, by rw [c.N, c.sc]; exact blkOk_by q2, by rw [ownP_snd]; exact q3, ⟨fun s H A cl fp => ckTg_ok t (c.blk s H scope cl A fp) q4⟩, ⟨fun s H A cl fp => h3.run _ _ _ _ (c.blk s H scope cl A fp) q5⟩, ⟨fun s H A cl fp => h1.pe (c.blk s H scope cl A fp) q6⟩, notSet_ok i2⟩
  · cases q
theorem ckComp_ok {ke : KE} {t : Tg} {ki : Cs → Expr → Expr → Bool} {kt : Cs → List Expr → Bool} {own : List Nat} {e : E} {k : IK} {its eifs : List E} (h1 : OkE G T F lv ke e) (h2 : OkI G T F lv k ki its) (h3 : OkT G T F lv kt eifs) : OkE G T F lv (ckComp ke t ki kt own) (.comp e t k its eifs own) := ⟨fun tt C X W y c h => vB_ok h fun q => by
  obtain ⟨elt, tg, iter, ifs, scope, pos, rfl, f1, f2, f3, f4, f5, f6, f7⟩ := (compB_ok h1 h2 h3 c q).ex
  have := ok_comp (pos := pos) c.good f1 f2 f3 f4 f5 f6 f7
  rw [ownP_snd] at this
  exact this⟩
/-! told(lambda: ..) -/
def noArgsB (a : Arguments) : Bool := match a with
  | ⟨[], [], none, [], [], none, []⟩ => true
  | _ => false
theorem noArgsB_ok {a : Arguments} (h : noArgsB a = true) : a = noArgs := by
  unfold noArgsB at h
  split at h
  · rfl
  · cases h
def ckRef (T : Tb) (k : KE) : KE := fun t C y => vB t y (match y with
  | .Call (.Name x _) [.Lambda ps body scope _] [] _ => C.lam && decide (x = T.rf) && glB C x && okn x && noArgsB ps && lamSB C.sc scope && k false (C.lamb scope) body
  | _ => false)
theorem ckRef_ok {k : KE} {e : E} (h1 : OkE G T F lv k e) : OkE G T F lv (ckRef T k) (.refused e) := ⟨fun t C X W y c h => vB_ok h fun q => by
  split at q
  · simp only [Bool.and_eq_true, decide_eq_true_eq] at q
    obtain ⟨⟨⟨⟨⟨⟨q0, rfl⟩, q1⟩, q2⟩, q3⟩, q4⟩, q5⟩ := q
    obtain ⟨l1, l2⟩ := c.lam q0
    obtain rfl := noArgsB_ok q3
    exact ok_refused l1 (glB_ok c q1) (okn_d q2) l2 (by rw [c.sc]; exact lamS_by q4) fun A outer s H E f c' hr => h1.pe (c.lamb hr) q5
  · cases q⟩
end
end Ev
end

section
set_option Elab.async false
set_option linter.all false
set_option maxRecDepth 100000
set_option autoImplicit false
/-! the check of expressions and of statements -/
namespace Ev
open PySem PySem.Spec PyProof.Rows L2 RZ LamX
def ckNo : KE := fun _ _ _ => false
def ckLs : List KE → KL'
  | [] => ckNil
  | k :: ks => ckCons k (ckLs ks)
def ckKs : List KE → Cs → List Keyword → Bool
  | [] => ckKnil
  | k :: ks => ckKcons k (ckKs ks)
def ckOp (l : List KE) : Cs → Option Expr → Bool := match l with
  | [] => ckO0
  | [k] => ckO1 k
  | _ => fun _ _ => false
def ckTe (l : List KE) : Cs → List Expr → Bool := match l with
  | [] => ckT0
  | [k] => ckT1 k
  | _ => fun _ _ => false
def ckIt (T : Tb) (i : IK) (l : List KE) : Cs → Expr → Expr → Bool := match i, l with
  | .seq, [k] => ckIseq k
  | .range, [k] => ckIr1 T k
  | .range, [k, k2] => ckIr2 T k k2
  | .enum, [k] => ckIenum T k
  | .zip, [k, k2] => ckIzip T k k2
  | _, _ => fun _ _ _ => false
def ckNR (T : Tb) (l : List KE) : KE := match l with
  | [k] => ckRg T "list" k k 1
  | [k, k2] => ckRg T "list" k k2 2
  | _ => ckNo
def ckMe (m : MK) (o : KE) (l : List KE) : KE := match m, l with
  | .pop, [] => ckMeth0 o
  | .append, [k] => ckMeth1 "append" o k
  | .popAt, [k] => ckMeth1 "pop" o k
  | _, _ => ckNo
def ckB (T : Tb) (f : BI) (l : List KE) : KE := match f, l with
  | .listR, [k] => ckRg T "list" k k 1
  | .listR, [k, k2] => ckRg T "list" k k2 2
  | .tupleR, [k] => ckRg T "tuple" k k 1
  | .tupleR, [k, k2] => ckRg T "tuple" k k2 2
  | .isInt, [k] => ckIsi T .isInt k
  | .isBool, [k] => ckIsi T .isBool k
  | .isTup, [k] => ckIsi T .isTup k
  | .isStr, [k] => ckIsi T .isStr k
  | .lenset, [k] => ckLenset T k
  | f, l => ckBi T f (ckLs l)
mutual
def ckE (T : Tb) : E → KE
  | .var i => ckVar i
  | .con c => ckCon c
  | .glob x c => ckGlob T x c
  | .tup es => ckTup (ckLs (ckAll T es))
  | .lst es => ckLst (ckLs (ckAll T es))
  | .nlst es => ckLst (ckLs (ckAll T es))
  | .nlist e => ckNlist T (ckE T e)
  | .nlistR es => ckNR T (ckAll T es)
  | .frz e => ckFrz (ckE T e)
  | .bin o a b => ckBin o (ckE T a) (ckE T b)
  | .un .neg a => ckNeg (ckE T a)
  | .un .not_ a => ckNot (ckE T a)
  | .chain o p a b c => ckChain o p (ckE T a) (ckE T b) (ckE T c)
  | .and_ a b => ckAnd (ckE T a) (ckE T b)
  | .or_ a b => ckOr (ckE T a) (ckE T b)
  | .ife c a b => ckIfe (ckE T c) (ckE T a) (ckE T b)
  | .idx a b => ckIdx (ckE T a) (ckE T b)
  | .slice a lo hi => ckSlice (ckE T a) (ckOp (ckAll T lo)) (ckOp (ckAll T hi))
  | .bi f es => ckB T f (ckAll T es)
  | .call f es => ckCall T f es.length (ckLs (ckAll T es))
  | .callk f es ks perm => ckCallk T f es.length (ckLs (ckAll T es)) (ckKs (ckAll T ks)) ks.length perm
  | .meth m o es => ckMe m (ckE T o) (ckAll T es)
  | .comp elt t k its ifs own => ckComp (ckE T elt) t (ckIt T k (ckAll T its)) (ckTe (ckAll T ifs)) own
  | .refused e => ckRef T (ckE T e)
def ckAll (T : Tb) : List E → List KE
  | [] => []
  | e :: es => ckE T e :: ckAll T es
end
theorem ckNo_ok {G : GI} {T : Tb} {F : CallS} {lv : Nat} {e : E} : OkE G T F lv ckNo e := ⟨fun t C X W y c h => by cases h⟩
section
variable {G : GI} {T : Tb} {F : CallS} {lv : Nat}
/-- each check shows its expression -/
inductive OkA (G : GI) (T : Tb) (F : CallS) (lv : Nat) : List KE → List E → Prop
  | nil : OkA G T F lv [] []
  | cons {k : KE} {e : E} {ks : List KE} {es : List E} : OkE G T F lv k e → OkA G T F lv ks es → OkA G T F lv (k :: ks) (e :: es)
theorem ckLs_ok : ∀ {ks : List KE} {es : List E}, OkA G T F lv ks es → OkL G T F lv (ckLs ks) es
  | _, _, .nil => ckNil_ok
  | _, _, .cons a b => ckCons_ok a (ckLs_ok b)
theorem ckKs_ok : ∀ {ks : List KE} {es : List E}, OkA G T F lv ks es → OkK G T F lv (ckKs ks) es
  | _, _, .nil => ckKnil_ok
  | _, _, .cons a b => ckKcons_ok a (ckKs_ok b)
theorem ckOp_ok {ks : List KE} {es : List E} (h : OkA G T F lv ks es) : OkO G T F lv (ckOp ks) es := by
  unfold ckOp
  split
  · cases h
    exact ckO0_ok
  · cases h with
    | cons a b =>
      cases b
      exact ckO1_ok a
  · exact ⟨fun _ _ _ _ _ h => by cases h⟩
theorem ckTe_ok {ks : List KE} {es : List E} (h : OkA G T F lv ks es) : OkT G T F lv (ckTe ks) es := by
  unfold ckTe
  split
  · cases h
    exact ckT0_ok
  · cases h with
    | cons a b =>
      cases b
      exact ckT1_ok a
  · exact ⟨fun _ _ _ _ _ h => by cases h⟩
theorem okA1 {k : KE} {es : List E} (h : OkA G T F lv [k] es) : ∃ e, es = [e] ∧ OkE G T F lv k e := by
  cases h with
  | cons a b =>
    cases b
    exact ⟨_, rfl, a⟩
theorem okA2 {k k2 : KE} {es : List E} (h : OkA G T F lv [k, k2] es) : ∃ e e2, es = [e, e2] ∧ OkE G T F lv k e ∧ OkE G T F lv k2 e2 := by
  cases h with
  | cons a b =>
    obtain ⟨e2, rfl, q⟩ := okA1 b
    exact ⟨_, _, rfl, a, q⟩
theorem okA0 {es : List E} (h : OkA G T F lv [] es) : es = [] := by cases h; rfl
theorem ckIt_ok {k : IK} {ks : List KE} {es : List E} (h : OkA G T F lv ks es) : OkI G T F lv k (ckIt T k ks) es := by
  unfold ckIt
  split
  · obtain ⟨e, rfl, q⟩ := okA1 h
    exact ckIseq_ok q
  · obtain ⟨e, rfl, q⟩ := okA1 h
    exact ckIr1_ok q
  · obtain ⟨e, e2, rfl, q, q2⟩ := okA2 h
    exact ckIr2_ok q q2
  · obtain ⟨e, rfl, q⟩ := okA1 h
    exact ckIenum_ok q
  · obtain ⟨e, e2, rfl, q, q2⟩ := okA2 h
    exact ckIzip_ok q q2
  · exact ⟨fun _ _ _ _ _ _ h => by cases h⟩
theorem ckNR_ok {ks : List KE} {es : List E} (h : OkA G T F lv ks es) : OkE G T F lv (ckNR T ks) (.nlistR es) := by
  unfold ckNR
  split
  · obtain ⟨e, rfl, q⟩ := okA1 h
    exact ckNlistR1_ok q
  · obtain ⟨e, e2, rfl, q, q2⟩ := okA2 h
    exact ckNlistR2_ok q q2
  · exact ckNo_ok
theorem ckMe_ok {m : MK} {o : KE} {eo : E} {ks : List KE} {es : List E} (ho : OkE G T F lv o eo) (h : OkA G T F lv ks es) : OkE G T F lv (ckMe m o ks) (.meth m eo es) := by
  unfold ckMe
  split
  · obtain rfl := okA0 h
    exact ckPop_ok ho
  · obtain ⟨e, rfl, q⟩ := okA1 h
    exact ckAppend_ok ho q
  · obtain ⟨e, rfl, q⟩ := okA1 h
    exact ckPopAt_ok ho q
  · exact ckNo_ok
theorem ckB_ok {f : BI} {ks : List KE} {es : List E} (h : OkA G T F lv ks es) : OkE G T F lv (ckB T f ks) (.bi f es) := by
  unfold ckB
  split
  · obtain ⟨e, rfl, q⟩ := okA1 h
    exact ckListR1_ok q
  · obtain ⟨e, e2, rfl, q, q2⟩ := okA2 h
    exact ckListR2_ok q q2
  · obtain ⟨e, rfl, q⟩ := okA1 h
    exact ckTupR1_ok q
  · obtain ⟨e, e2, rfl, q, q2⟩ := okA2 h
    exact ckTupR2_ok q q2
  · obtain ⟨e, rfl, q⟩ := okA1 h
    exact ckIsi_ok q
  · obtain ⟨e, rfl, q⟩ := okA1 h
    exact ckIsi_ok q
  · obtain ⟨e, rfl, q⟩ := okA1 h
    exact ckIsi_ok q
  · obtain ⟨e, rfl, q⟩ := okA1 h
    exact ckIsi_ok q
  · obtain ⟨e, rfl, q⟩ := okA1 h
    exact ckLenset_ok q
  · exact ckBi_ok (ckLs_ok h)
mutual
theorem ckE_ok : ∀ e : E, OkE G T F lv (ckE T e) e
  | .var i => by simp only [ckE]; exact ckVar_ok i
  | .con c => by simp only [ckE]; exact ckCon_ok c
  | .glob x c => by simp only [ckE]; exact ckGlob_ok x c
  | .tup es => by simp only [ckE]; exact ckTup_ok (ckLs_ok (ckAll_ok es))
  | .lst es => by simp only [ckE]; exact ckLst_ok (ckLs_ok (ckAll_ok es))
  | .nlst es => by simp only [ckE]; exact ckNlst_ok (ckLs_ok (ckAll_ok es))
  | .nlist e => by simp only [ckE]; exact ckNlist_ok (ckE_ok e)
  | .nlistR es => by simp only [ckE]; exact ckNR_ok (ckAll_ok es)
  | .frz e => by simp only [ckE]; exact ckFrz_ok (ckE_ok e)
  | .bin o a b => by simp only [ckE]; exact ckBin_ok (ckE_ok a) (ckE_ok b)
  | .un .neg a => by simp only [ckE]; exact ckNeg_ok (ckE_ok a)
  | .un .not_ a => by simp only [ckE]; exact ckNot_ok (ckE_ok a)
  | .chain o p a b c => by simp only [ckE]; exact ckChain_ok (ckE_ok a) (ckE_ok b) (ckE_ok c)
  | .and_ a b => by simp only [ckE]; exact ckAnd_ok (ckE_ok a) (ckE_ok b)
  | .or_ a b => by simp only [ckE]; exact ckOr_ok (ckE_ok a) (ckE_ok b)
  | .ife c a b => by simp only [ckE]; exact ckIfe_ok (ckE_ok c) (ckE_ok a) (ckE_ok b)
  | .idx a b => by simp only [ckE]; exact ckIdx_ok (ckE_ok a) (ckE_ok b)
  | .slice a lo hi => by simp only [ckE]; exact ckSlice_ok (ckE_ok a) (ckOp_ok (ckAll_ok lo)) (ckOp_ok (ckAll_ok hi))
  | .bi f es => by simp only [ckE]; exact ckB_ok (ckAll_ok es)
  | .call f es => by simp only [ckE]; exact ckCall_ok (ckLs_ok (ckAll_ok es))
  | .callk f es ks perm => by simp only [ckE]; exact ckCallk_ok (ckLs_ok (ckAll_ok es)) (ckKs_ok (ckAll_ok ks))
  | .meth m o es => by simp only [ckE]; exact ckMe_ok (ckE_ok o) (ckAll_ok es)
  | .comp elt t k its ifs own => by simp only [ckE]; exact ckComp_ok (ckE_ok elt) (ckIt_ok (ckAll_ok its)) (ckTe_ok (ckAll_ok ifs))
  | .refused e => by simp only [ckE]; exact ckRef_ok (ckE_ok e)
theorem ckAll_ok : ∀ es : List E, OkA G T F lv (ckAll T es) es
  | [] => by simp only [ckAll]; exact .nil
  | e :: es => by simp only [ckAll]; exact .cons (ckE_ok e) (ckAll_ok es)
end
end
end Ev
end

section
set_option Elab.async false
set_option linter.all false
set_option maxRecDepth 100000
set_option autoImplicit false
/-! the check of statements -/
namespace Ev
open PySem PySem.Spec PyProof.Rows L2 RZ LamX
def starB : Expr → Bool
  | .Starred .. => true
  | _ => false
def lc (C : Cs) (x : Str) : Bool := decide (C.sc.names.lookup x = some .local)
/-- not a plain name -/
def notLc (C : Cs) : Expr → Bool
  | .Name x _ => !(lc C x)
  | _ => true
/-- no stores from the right -/
def swNone (C : Cs) (tg a : Expr) : Bool := match tg, a with
  | .Tuple ts _ _, .Tuple vs _ _ => vs.all (foldedForSure 8) || !(ts.length == 2 || ts.length == 3) || ts.any (notLc C)
  | .List _ _, _ => false
  | _, _ => true
theorem fm_lt {α β : Type} {f : α → Option β} : ∀ {l : List α}, (∃ x ∈ l, f x = none) → (l.filterMap f).length < l.length
  | [], ⟨x, h, _⟩ => by cases h
  | a :: l, ⟨x, h, e⟩ => by
    rw [List.filterMap_cons]
    have hle := List.length_filterMap_le f l
    rcases List.mem_cons.mp h with rfl | h
    · rw [e]
      simp only [List.length_cons]
      omega
    · have := fm_lt ⟨x, h, e⟩
      split
      · simp only [List.length_cons]
        omega
      · simp only [List.length_cons]
        omega
theorem swNone_ok {C : Cs} {tg a : Expr} {env : PySem.Env} (hs : env.scope = C.sc) (h : swNone C tg a = true) : swappedStores [tg] a env = pure none := by
  cases tg with
  | Tuple ts k p =>
    cases a with
    | Tuple vs k2 p2 =>
      have h : (vs.all (foldedForSure 8) || !(ts.length == 2 || ts.length == 3) || ts.any (notLc C)) = true := h
      unfold swappedStores
      simp only [pure_bind]
      split
      · rfl
      · rename_i h1
        split
        · rfl
        · simp only [Bool.or_eq_true] at h
          rcases h with (h | h) | h
          · simp only [h, if_true]
            split <;> rfl
          · exfalso
            apply h1
            simp only [Bool.or_eq_true]
            exact .inl (.inl h)
          · obtain ⟨t, ht, hn⟩ := List.any_eq_true.mp h
            rw [if_pos]
            · simp only [Bool.or_eq_true]
              refine .inl ?_
              rw [bne_iff_ne]
              refine Nat.ne_of_lt (fm_lt ⟨t, ht, ?_⟩)
              cases t with
              | Name x px =>
                have hn : (!(lc C x)) = true := hn
                have hk : (env.kindOf x == some NameKind.local) = false := by
                  show (env.scope.names.lookup x == some NameKind.local) = false
                  rw [hs]
                  unfold lc at hn
                  simpa using hn
                show (if (env.kindOf x == some NameKind.local && px.line == _) = true then some x else none) = none
                rw [hk]
                rfl
              | _ => rfl
    | _ => rfl
  | List ts p => cases h
  | _ => rfl
section
variable {G : GI} {T : Tb} {F : CallS} {lv : Nat} {X : Cx} {W : XK} {C : Cs} {pos : Pos}
/-- a, b = .. stored from the right -/
def sw2 (C : Cs) (x y : Str) (px py : Pos) (a b : Expr) : Bool := decide (C.sc.kind = .function) && !starB a && !starB b && lc C x && lc C y && decide (py.line = px.line) && decide (x ≠ y) && !(([a, b] : List Expr).all (foldedForSure 8)) && !(([a, b] : List Expr).all (constantsAlone 8))
theorem sw2_ok {x y : Str} {px py pt : Pos} {kt k2 : Nat} {pt2 : Pos} {a b : Expr} {env : PySem.Env} (hs : env.scope = C.sc) (h : sw2 C x y px py a b = true) : swappedStores [.Tuple [.Name x px, .Name y py] kt pt] (.Tuple [a, b] k2 pt2) env = pure (some [x, y]) := by
  unfold sw2 lc at h
  simp only [Bool.and_eq_true, decide_eq_true_eq, Bool.not_eq_true'] at h
  obtain ⟨⟨⟨⟨⟨⟨⟨⟨h1, h2⟩, h3⟩, h4⟩, h5⟩, h6⟩, h7⟩, h8⟩, h9⟩ := h
  have hb : env.blockKind = .function := by unfold Env.blockKind; rw [hs, h1]; rfl
  have hx : env.kindOf x = some .local := by show env.scope.names.lookup x = _; rw [hs]; exact h4
  have hy : env.kindOf y = some .local := by show env.scope.names.lookup y = _; rw [hs]; exact h5
  unfold swappedStores
  have ep : ∀ (x : Str) (p : Pos), (Expr.Name x p).pos = p := fun _ _ => rfl
  simp only [pure_bind]
  rw [if_neg (by rw [hb]; simp), if_neg ?_]
  rotate_left
  · simp only [List.any_cons, List.any_nil, Bool.or_false, Bool.or_eq_true]
    rintro (hc | hc)
    · cases a <;> first | exact Bool.noConfusion h2 | exact Bool.noConfusion hc
    · cases b <;> first | exact Bool.noConfusion h3 | exact Bool.noConfusion hc
  simp only [List.head?_cons, Option.map_some, Option.getD_some, ep, List.filterMap_cons, List.filterMap_nil, hx, hy, h6, beq_self_eq_true, Bool.and_self, if_true]
  rw [if_neg (by simp [List.eraseDups_cons, h7, Ne.symm h7]), if_neg (by rw [h8]; decide), if_neg (by rw [h9]; decide)]
def sw3 (C : Cs) (x y z : Str) (px py pz : Pos) (a b d : Expr) : Bool := decide (C.sc.kind = .function) && !starB a && !starB b && !starB d && lc C x && lc C y && lc C z && decide (py.line = px.line) && decide (pz.line = px.line) && decide (x ≠ y) && decide (x ≠ z) && decide (y ≠ z) && !(([a, b, d] : List Expr).all (foldedForSure 8)) && !(([a, b, d] : List Expr).all (constantsAlone 8))
theorem sw3_ok {x y z : Str} {px py pz pt : Pos} {kt k2 : Nat} {pt2 : Pos} {a b d : Expr} {env : PySem.Env} (hs : env.scope = C.sc) (h : sw3 C x y z px py pz a b d = true) : swappedStores [.Tuple [.Name x px, .Name y py, .Name z pz] kt pt] (.Tuple [a, b, d] k2 pt2) env = pure (some [x, y, z]) := by
  unfold sw3 lc at h
  simp only [Bool.and_eq_true, decide_eq_true_eq, Bool.not_eq_true'] at h
  obtain ⟨⟨⟨⟨⟨⟨⟨⟨⟨⟨⟨⟨⟨h1, h2⟩, h3⟩, h3'⟩, h4⟩, h5⟩, h5'⟩, h6⟩, h6'⟩, h7⟩, h7'⟩, h7''⟩, h8⟩, h9⟩ := h
  have hb : env.blockKind = .function := by unfold Env.blockKind; rw [hs, h1]; rfl
  have hx : env.kindOf x = some .local := by show env.scope.names.lookup x = _; rw [hs]; exact h4
  have hy : env.kindOf y = some .local := by show env.scope.names.lookup y = _; rw [hs]; exact h5
  have hz : env.kindOf z = some .local := by show env.scope.names.lookup z = _; rw [hs]; exact h5'
  unfold swappedStores
  have ep : ∀ (x : Str) (p : Pos), (Expr.Name x p).pos = p := fun _ _ => rfl
  simp only [pure_bind]
  rw [if_neg (by rw [hb]; simp), if_neg ?_]
  rotate_left
  · simp only [List.any_cons, List.any_nil, Bool.or_false, Bool.or_eq_true]
    rintro (hc | hc | hc)
    · cases a <;> first | exact Bool.noConfusion h2 | exact Bool.noConfusion hc
    · cases b <;> first | exact Bool.noConfusion h3 | exact Bool.noConfusion hc
    · cases d <;> first | exact Bool.noConfusion h3' | exact Bool.noConfusion hc
  simp only [List.head?_cons, Option.map_some, Option.getD_some, ep, List.filterMap_cons, List.filterMap_nil, hx, hy, hz, h6, h6', beq_self_eq_true, Bool.and_self, if_true]
  rw [if_neg (by simp [List.eraseDups_cons, h7, Ne.symm h7, h7', Ne.symm h7', h7'', Ne.symm h7'']), if_neg (by rw [h8]; decide), if_neg (by rw [h9]; decide)]
/-- name = [..]: the name's place is used -/
def ownName (scope : Scope) (y : Str) : Bool := scope.names.any fun (n, k) => n == y && (k == .local || k == .cell)
def swOff (C : Cs) (tg a : Expr) : Bool := notComp a || (match tg, a with
  | .Name y py, .ListComp _ _ scope p => decide (C.sc.kind = .function) && (!(lc C y) || !(py.line == p.line) || ownName scope y)
  | .Tuple _ _ _, _ => true
  | .Subscript _ _ _, _ => true
  | _, _ => false)
theorem swOff_ok {tg a : Expr} {l : Nat} (c : CtOk G T F lv X W C) (h : swOff C tg a = true) : swapsWithSole [tg] a l X.env = pure false := by
  show swapsWith a (some tg) l X.env = pure false
  unfold swOff at h
  rcases Bool.or_eq_true_iff.mp h with h | h
  · exact notComp_ok h
  · split at h
    · rename_i y py elt gs scope p _
      simp only [Bool.and_eq_true, Bool.or_eq_true, Bool.not_eq_true', decide_eq_true_eq] at h
      show pure (X.env.blockKind == .function && X.env.kindOf y == some .local && py.line == p.line && !(ownName scope y)) = pure false
      have e : (X.env.blockKind == .function && X.env.kindOf y == some .local && py.line == p.line && !(ownName scope y)) = false := by
        rcases h.2 with (h2 | h2) | h2
        · have : (X.env.kindOf y == some .local) = false := by
            show (X.env.scope.names.lookup y == some NameKind.local) = false
            rw [c.sc]
            unfold lc at h2
            simpa using h2
          rw [this]
          simp
        · rw [h2]
          simp
        · rw [h2]
          simp
      rw [e]
    · cases a <;> rfl
    · cases a <;> rfl
    · cases h
abbrev KS := Cs → Stmt → Bool
abbrev KSs := Cs → List Stmt → Bool
structure OkS (G : GI) (T : Tb) (F : CallS) (lv : Nat) (k : KS) (s : S) : Prop where
  run : ∀ (C : Cs) (X : Cx) (W : XK) (st : Stmt), CtOk G T F lv X W C → PassesOwn (model X.prog X.w) X.A X.env X.xe → k C st = true → PS X st (RS G (evS F s) W)
structure OkSs (G : GI) (T : Tb) (F : CallS) (lv : Nat) (k : KSs) (s : List S) : Prop where
  run : ∀ (C : Cs) (X : Cx) (W : XK) (st : List Stmt), CtOk G T F lv X W C → PassesOwn (model X.prog X.w) X.A X.env X.xe → k C st = true → PSs X st (RS G (evSs F s) W)
theorem lc_ok (c : CtOk G T F lv X W C) {x : Str} (h : lc C x = true) : X.env.scope.names.lookup x = some .local := by rw [c.sc]; exact of_decide_eq_true h
def ckAsg (t : Tg) (k : KE) : KS := fun C st => match st with
  | .Assign [tg] a _ => nst tg && swNone C tg a && swOff C tg a && ckTg t C tg && k false C a
  | _ => false
theorem ckAsg_ok {t : Tg} {k : KE} {e : E} (h1 : OkE G T F lv k e) : OkS G T F lv (ckAsg t k) (.asg t e) := ⟨fun C X W st c po q => by
  unfold ckAsg at q
  split at q
  · simp only [Bool.and_eq_true] at q
    obtain ⟨⟨⟨⟨q1, q2⟩, q3⟩, q4⟩, q5⟩ := q
    exact ok_asg (h1.pe c q5) (ckTg_ok t c q4) (swOff_ok c q3) (swNone_ok c.sc q2) (by rw [asg_nst q1]; rfl)
  · cases q⟩
def ckAsgC (i : Nat) (ke : KE) (t : Tg) (ki : Cs → Expr → Expr → Bool) (kt : Cs → List Expr → Bool) (own : List Nat) : KS := fun C st => ckAsg (.nm i) (ckComp ke t ki kt own) C st || (match st with
  | .Assign [.Name y py] (.ListComp elt gs scope p) _ => decide (C.sc.kind = .function) && lc C y && (py.line == p.line) && !(ownName scope y) && decide (C.N[i]? = some y) && compB ke t ki kt own C (.ListComp elt gs scope p)
  | _ => false)
theorem ckAsgC_ok {i : Nat} {ke : KE} {t : Tg} {ki : Cs → Expr → Expr → Bool} {kt : Cs → List Expr → Bool} {own : List Nat} {e : E} {k : IK} {its eifs : List E} (h1 : OkE G T F lv ke e) (h2 : OkI G T F lv k ki its) (h3 : OkT G T F lv kt eifs) : OkS G T F lv (ckAsgC i ke t ki kt own) (.asg (.nm i) (.comp e t k its eifs own)) := ⟨fun C X W st c po q => by
  unfold ckAsgC at q
  rcases Bool.or_eq_true_iff.mp q with q | q
  · exact (ckAsg_ok (ckComp_ok h1 h2 h3)).run C X W st c po q
  · split at q
    · simp only [Bool.and_eq_true, decide_eq_true_eq, Bool.not_eq_true'] at q
      obtain ⟨⟨⟨⟨⟨q1, q2⟩, q3⟩, q4⟩, q5⟩, q6⟩ := q
      obtain ⟨elt, tg, iter, ifs, scope, pos, e0, f1, f2, f3, f4, f5, f6, f7⟩ := (compB_ok h1 h2 h3 c q6).ex
      cases e0
      have hy := lc_ok c q2
      have := fun sp => ok_setLc (spos := sp) c.good (by rw [c.N]; exact q5) hy (sw_true (by rw [c.sc]; exact q1) hy q3 q4) f1 f2 f3 f4 f5 f6 f7
      rw [ownP_snd] at this
      exact this _
    · cases q⟩
def ckPar (is : List Nat) (ks : KL') : KS := fun C st => match st, is with
  | .Assign [.Tuple [.Name x px, .Name y py] _ _] (.Tuple [a, b] _ _) _, [i, j] => decide (C.N[i]? = some x) && decide (C.N[j]? = some y) && decide (i ≠ j) && sw2 C x y px py a b && ks C [a, b]
  | .Assign [.Tuple [.Name x px, .Name y py, .Name z pz] _ _] (.Tuple [a, b, d] _ _) _, [i, j, l] => decide (C.N[i]? = some x) && decide (C.N[j]? = some y) && decide (C.N[l]? = some z) && decide (i ≠ j) && decide (i ≠ l) && decide (j ≠ l) && sw3 C x y z px py pz a b d && ks C [a, b, d]
  | _, _ => false
theorem ckPar_ok {is : List Nat} {ks : KL'} {es : List E} (h1 : OkL G T F lv ks es) : OkS G T F lv (ckPar is ks) (.par is es) := ⟨fun C X W st c po q => by
  unfold ckPar at q
  split at q
  · simp only [Bool.and_eq_true, decide_eq_true_eq] at q
    obtain ⟨⟨⟨⟨q1, q2⟩, q3⟩, q4⟩, q5⟩ := q
    have q4' := q4
    unfold sw2 at q4'
    simp only [Bool.and_eq_true] at q4'
    exact ok_par2 c.good (by rw [c.N]; exact q1) (by rw [c.N]; exact q2) q3 (lc_ok c q4'.1.1.1.1.1.2) (lc_ok c q4'.1.1.1.1.2) (h1.run C X W _ c q5) (sw2_ok c.sc q4) rfl
  · simp only [Bool.and_eq_true, decide_eq_true_eq] at q
    obtain ⟨⟨⟨⟨⟨⟨⟨q1, q2⟩, q2'⟩, q3⟩, q3'⟩, q3''⟩, q4⟩, q5⟩ := q
    have q4' := q4
    unfold sw3 at q4'
    simp only [Bool.and_eq_true] at q4'
    exact ok_par3 c.good (by rw [c.N]; exact q1) (by rw [c.N]; exact q2) (by rw [c.N]; exact q2') q3 q3' q3'' (lc_ok c q4'.1.1.1.1.1.1.1.1.1.2) (lc_ok c q4'.1.1.1.1.1.1.1.1.2) (lc_ok c q4'.1.1.1.1.1.1.1.2) (h1.run C X W _ c q5) (sw3_ok c.sc q4) rfl
  · cases q⟩
def nmB (C : Cs) : List Nat → List Expr → Bool
  | [], es => es.isEmpty
  | i :: is, es => (match es with
    | .Name x _ :: r => decide (C.N[i]? = some x) && locB C x && nmB C is r
    | _ => false)
theorem nmB_ok (c : CtOk G T F lv X W C) : ∀ {is : List Nat} {es : List Expr}, nmB C is es = true → NmL X is es
  | [], es, h => by
    cases es with
    | nil => exact .nil
    | cons e r => cases h
  | i :: is, es, h => by
    simp only [nmB] at h
    split at h
    · simp only [Bool.and_eq_true, decide_eq_true_eq] at h
      obtain ⟨l1, l2⟩ := locB_ok c h.1.2
      exact .cons (by rw [c.N]; exact h.1.1) l1 l2 (nmB_ok c h.2)
    · cases h
def ckUnp (is : List Nat) (ks : KL') : KS := fun C st => match st with
  | .Assign [.Tuple ts k p] (.Tuple as k2 p2) _ => nmB C is ts && swNone C (.Tuple ts k p) (.Tuple as k2 p2) && ks C as
  | _ => false
theorem ckUnp_ok {is : List Nat} {ks : KL'} {es : List E} (h1 : OkL G T F lv ks es) : OkS G T F lv (ckUnp is ks) (.unp is es) := ⟨fun C X W st c po q => by
  unfold ckUnp at q
  split at q
  · simp only [Bool.and_eq_true] at q
    exact ok_unp c.good (nmB_ok c q.1.1) (h1.run C X W _ c q.2) (swNone_ok c.sc q.1.2)
  · cases q⟩
def ckSetix (k1 k2 k3 : KE) : KS := fun C st => match st with
  | .Assign [.Subscript a b _] v _ => plainIxB b && notComp v && k1 false C a && k2 false C b && k3 false C v
  | _ => false
theorem ckSetix_ok {k1 k2 k3 : KE} {e e2 e3 : E} (h1 : OkE G T F lv k1 e) (h2 : OkE G T F lv k2 e2) (h3 : OkE G T F lv k3 e3) : OkS G T F lv (ckSetix k1 k2 k3) (.setix e e2 e3) := ⟨fun C X W st c po q => by
  unfold ckSetix at q
  split at q
  · rename_i a b tp v p
    simp only [Bool.and_eq_true] at q
    obtain ⟨⟨⟨⟨q1, q2⟩, q3⟩, q4⟩, q5⟩ := q
    exact ok_setix (h1.pe c q3) (h2.pe c q4) (h3.pe c q5) (show swapsWith v (some (.Subscript a b tp)) p.line X.env = pure false from notComp_ok q2) (swNone_ok (C := C) c.sc rfl) rfl (fun v => by cases b <;> first | rfl | cases q1)
  · cases q⟩
def ckAug (i : Nat) (o : B2) (k : KE) : KS := fun C st => match st with
  | .AugAssign (.Name x _) p a _ => decide (bop o = some p) && decide (C.N[i]? = some x) && locB C x && k false C a
  | _ => false
theorem ckAug_ok {i : Nat} {o : B2} {k : KE} {e : E} (h1 : OkE G T F lv k e) : OkS G T F lv (ckAug i o k) (.aug i o e) := ⟨fun C X W st c po q => by
  unfold ckAug at q
  split at q
  · simp only [Bool.and_eq_true, decide_eq_true_eq] at q
    obtain ⟨⟨⟨q1, q2⟩, q3⟩, q4⟩ := q
    obtain ⟨l1, l2⟩ := locB_ok c q3
    exact ok_aug c.good q1 (by rw [c.N]; exact q2) l1 l2 (h1.pe c q4)
  · cases q⟩
def ckExpr (k : KE) : KS := fun C st => match st with
  | .Expr a _ => notComp a && k false C a
  | _ => false
theorem ckExpr_ok {k : KE} {e : E} (h1 : OkE G T F lv k e) : OkS G T F lv (ckExpr k) (.expr e) := ⟨fun C X W st c po q => by
  unfold ckExpr at q
  split at q
  · simp only [Bool.and_eq_true] at q
    exact ok_expr (h1.pe c q.2) (notComp_ok q.1)
  · cases q⟩
def ckRet (k : KE) : KS := fun C st => match st with
  | .Return (some a) _ => k false C a
  | _ => false
theorem ckRet_ok {k : KE} {e : E} (h1 : OkE G T F lv k e) : OkS G T F lv (ckRet k) (.ret e) := ⟨fun C X W st c po q => by
  unfold ckRet at q
  split at q
  · exact ok_ret (h1.pe c q)
  · cases q⟩
def ckRetN : KS := fun C st => match st with
  | .Return none _ => true
  | _ => false
theorem ckRetN_ok : OkS G T F lv ckRetN .retN := ⟨fun C X W st c po q => by
  unfold ckRetN at q
  split at q
  · exact ok_retN
  · cases q⟩
def ckPass : KS := fun C st => match st with
  | .Pass _ => true
  | .Expr (.Constant (.str _) _ _) _ => true
  | _ => false
theorem ckPass_ok : OkS G T F lv ckPass .pass := ⟨fun C X W st c po q => by
  unfold ckPass at q
  split at q
  · exact ok_pass
  · exact ok_doc
  · cases q⟩
def ckBrk : KS := fun C st => match st with
  | .Break _ => true
  | _ => false
theorem ckBrk_ok : OkS G T F lv ckBrk .brk := ⟨fun C X W st c po q => by
  unfold ckBrk at q
  split at q
  · exact ok_brk
  · cases q⟩
def ckCont : KS := fun C st => match st with
  | .Continue _ => true
  | _ => false
theorem ckCont_ok : OkS G T F lv ckCont .cont := ⟨fun C X W st c po q => by
  unfold ckCont at q
  split at q
  · exact ok_cont
  · cases q⟩
def ckIf (k : KE) (ka kb : KSs) : KS := fun C st => match st with
  | .If a b d _ => k true C a && ka C b && kb C d
  | _ => false
theorem ckIf_ok {k : KE} {ka kb : KSs} {e : E} {sa sb : List S} (h1 : OkE G T F lv k e) (h2 : OkSs G T F lv ka sa) (h3 : OkSs G T F lv kb sb) : OkS G T F lv (ckIf k ka kb) (.if_ e sa sb) := ⟨fun C X W st c po q => by
  unfold ckIf at q
  split at q
  · simp only [Bool.and_eq_true] at q
    exact ok_if (h1.pt c q.1.1) (h2.run C X W _ c po q.1.2) (h3.run C X W _ c po q.2)
  · cases q⟩
def ckFor (t : Tg) (ki : Cs → Expr → Expr → Bool) (kb : KSs) : KS := fun C st => match st with
  | .For tg it body [] _ => ki C tg it && ckTg t C tg && kb C body
  | _ => false
theorem ckFor_ok {t : Tg} {k : IK} {ki : Cs → Expr → Expr → Bool} {kb : KSs} {its : List E} {sb : List S} (h1 : OkI G T F lv k ki its) (h2 : OkSs G T F lv kb sb) : OkS G T F lv (ckFor t ki kb) (.for_ t k its sb) := ⟨fun C X W st c po q => by
  unfold ckFor at q
  split at q
  · simp only [Bool.and_eq_true] at q
    obtain ⟨i1, i2⟩ := h1.run C X W _ _ c q.1.1
    exact ok_for c.good po i1 (ckTg_ok t c q.1.2) (h2.run C X W _ c po q.2) (notSet_ok i2)
  · cases q⟩
def ckWhile (k : KE) (kb : KSs) : KS := fun C st => match st with
  | .While a body [] _ => k true C a && kb C body
  | _ => false
theorem ckWhile_ok {k : KE} {kb : KSs} {e : E} {sb : List S} (h1 : OkE G T F lv k e) (h2 : OkSs G T F lv kb sb) : OkS G T F lv (ckWhile k kb) (.while_ e sb) := ⟨fun C X W st c po q => by
  unfold ckWhile at q
  split at q
  · simp only [Bool.and_eq_true] at q
    exact ok_while po (h1.pt c q.1) (h2.run C X W _ c po q.2)
  · cases q⟩
def ckRaise (T : Tb) (n : Nat) (k : KE) : KS := fun C st => match st with
  | .Raise (some (.Call (.Name x _) [a] [] _)) none _ => glB C x && okn x && decide ((n, x) ∈ T.exs) && nst a && k false C a
  | _ => false
theorem ckRaise_ok {n : Nat} {k : KE} {e : E} (h1 : OkE G T F lv k e) : OkS G T F lv (ckRaise T n k) (.raise n e) := ⟨fun C X W st c po q => by
  unfold ckRaise at q
  split at q
  · simp only [Bool.and_eq_true, decide_eq_true_eq] at q
    obtain ⟨⟨⟨⟨q1, q2⟩, q3⟩, q4⟩, q5⟩ := q
    obtain ⟨fI, ox⟩ := c.tb.ex _ _ q3
    exact ok_raise c.good ox c.room (ok_cons (h1.pe c q5) ok_nil (nst_ok q4)) (glB_ok c q1) (okn_d q2) (nst_ok q4)
  · cases q⟩
def ckSnil : KSs := fun _ st => st.isEmpty
def ckScons (k : KS) (ks : KSs) : KSs := fun C st => match st with
  | a :: r => k C a && ks C r
  | [] => false
theorem ckSnil_ok : OkSs G T F lv ckSnil [] := ⟨fun C X W st c po q => by
  cases st with
  | nil => exact ok_snil
  | cons a r => cases q⟩
theorem ckScons_ok {k : KS} {ks : KSs} {s : S} {ss : List S} (h1 : OkS G T F lv k s) (h2 : OkSs G T F lv ks ss) : OkSs G T F lv (ckScons k ks) (s :: ss) := ⟨fun C X W st c po q => by
  cases st with
  | nil => cases q
  | cons a r =>
    simp only [ckScons, Bool.and_eq_true] at q
    exact ok_scons (h1.run C X W _ c po q.1) (h2.run C X W _ c po q.2)⟩
end
mutual
def ckS (T : Tb) : S → KS
  | .asg (.nm i) (.comp elt t k its ifs own) => ckAsgC i (ckE T elt) t (ckIt T k (ckAll T its)) (ckTe (ckAll T ifs)) own
  | .asg t e => ckAsg t (ckE T e)
  | .par is es => ckPar is (ckLs (ckAll T es))
  | .unp is es => ckUnp is (ckLs (ckAll T es))
  | .setix o i e => ckSetix (ckE T o) (ckE T i) (ckE T e)
  | .swapix _ _ _ => fun _ _ => false
  | .aug i o e => ckAug i o (ckE T e)
  | .expr e => ckExpr (ckE T e)
  | .ret e => ckRet (ckE T e)
  | .retN => ckRetN
  | .if_ c a b => ckIf (ckE T c) (ckSs T a) (ckSs T b)
  | .for_ t k its body => ckFor t (ckIt T k (ckAll T its)) (ckSs T body)
  | .while_ c body => ckWhile (ckE T c) (ckSs T body)
  | .brk => ckBrk
  | .cont => ckCont
  | .pass => ckPass
  | .raise c e => ckRaise T c (ckE T e)
def ckSs (T : Tb) : List S → KSs
  | [] => ckSnil
  | s :: ss => ckScons (ckS T s) (ckSs T ss)
end
section
variable {G : GI} {T : Tb} {F : CallS} {lv : Nat}
mutual
theorem ckS_ok : ∀ s : S, OkS G T F lv (ckS T s) s
  | .asg t e => by
    unfold ckS
    split
    · rename_i h
      cases h
      exact ckAsgC_ok (ckE_ok _) (ckIt_ok (ckAll_ok _)) (ckTe_ok (ckAll_ok _))
    all_goals first | (rename_i h; cases h; exact ckAsg_ok (ckE_ok _)) | (rename_i h; cases h)
  | .par is es => by simp only [ckS]; exact ckPar_ok (ckLs_ok (ckAll_ok es))
  | .unp is es => by simp only [ckS]; exact ckUnp_ok (ckLs_ok (ckAll_ok es))
  | .setix o i e => by simp only [ckS]; exact ckSetix_ok (ckE_ok o) (ckE_ok i) (ckE_ok e)
  | .swapix _ _ _ => by simp only [ckS]; exact ⟨fun _ _ _ _ _ _ h => by cases h⟩
  | .aug i o e => by simp only [ckS]; exact ckAug_ok (ckE_ok e)
  | .expr e => by simp only [ckS]; exact ckExpr_ok (ckE_ok e)
  | .ret e => by simp only [ckS]; exact ckRet_ok (ckE_ok e)
  | .retN => by simp only [ckS]; exact ckRetN_ok
  | .if_ c a b => by simp only [ckS]; exact ckIf_ok (ckE_ok c) (ckSs_ok a) (ckSs_ok b)
  | .for_ t k its body => by simp only [ckS]; exact ckFor_ok (ckIt_ok (ckAll_ok its)) (ckSs_ok body)
  | .while_ c body => by simp only [ckS]; exact ckWhile_ok (ckE_ok c) (ckSs_ok body)
  | .brk => by simp only [ckS]; exact ckBrk_ok
  | .cont => by simp only [ckS]; exact ckCont_ok
  | .pass => by simp only [ckS]; exact ckPass_ok
  | .raise c e => by simp only [ckS]; exact ckRaise_ok (ckE_ok e)
theorem ckSs_ok : ∀ ss : List S, OkSs G T F lv (ckSs T ss) ss
  | [] => by simp only [ckSs]; exact ckSnil_ok
  | s :: ss => by simp only [ckSs]; exact ckScons_ok (ckS_ok s) (ckSs_ok ss)
end
end
end Ev
end

section
set_option Elab.async false
set_option linter.all false
set_option maxRecDepth 100000
set_option autoImplicit false
/-! a program's defs: each gives what callF says -/
namespace Ev
open PySem PySem.Spec PyProof.Rows L2 RZ LamX
structure DF where
  nm : Str
  pr : Arguments
  body : List Stmt
  sc : Scope
  N : List Str
  ps : List Str
  fn : Fn
  lam : Bool
def scB (N ps : List Str) (sc : Scope) : Bool := decide (sc.kind = .function) && !sc.isCoroutine && !sc.isGenerator && decide N.Nodup && decide (N.take ps.length = ps) && (ps.all fun x => decide (sc.names.lookup x = some .local) || decide (sc.names.lookup x = some .cell)) && sc.names.all fun y => decide (y.2 ≠ .free)
theorem scB_ok {N ps : List Str} {sc : Scope} (h : scB N ps sc = true) : FnScope N ps sc := by
  unfold scB at h
  simp only [Bool.and_eq_true, decide_eq_true_eq, Bool.not_eq_true', List.all_eq_true, Bool.or_eq_true] at h
  obtain ⟨⟨⟨⟨⟨⟨h1, h2⟩, h3⟩, h4⟩, h5⟩, h6⟩, h7⟩ := h
  exact ⟨h1, h2, h3, h4, h5, h6, h7⟩
def dfB (T : Tb) (d : DF) : Bool := scB d.N d.ps d.sc && decide (d.fn.pars = d.ps.length) && decide (d.fn.names = d.N.length) && ckSs T d.fn.body ⟨d.N, d.sc, fun _ => true, d.lam⟩ d.body
/-- the facts where lambdas are told of, of a def with the code value and the qualified name -/
def LamD (G : GI) (K : PySem.W.Frag) (mg : Str → Option Value) (base : Heap) (code : Value) (qual x : Str) : Prop :=
  ∃ (a e n fl : Str) (g c PT : Addr) (pg : Arguments) (sg : Scope) (dV kV doc pm cdv ct oc : Value) (an od : Option Addr) (osl : Array (Option Value)) (j : Nat) (p1 p2 p3 p4 p5 p6 p7 p8 p9 p10 p11 : Pos),
    mg x = some (.ref g) ∧ PySem.W.keepIn K (.ref g) = true ∧
    K.lookup g = some ⟨oc, od, .func (PySem.W.fnOf x x pg [.Try [.Expr (.Call (.Name a p1) [] [] p2) p3] [.ExceptHandler (some (.Name e p4)) (some n) [.Return (some (.Attribute (.Name n p5) fl p6)) p7] p8] [] [] p9, .Return (some (.Constant (.str ⟨#[]⟩) j p10)) p11] sg dV kV doc pm an cdv ct), osl⟩ ∧
    PySem.W.codeIn K cdv x = true ∧ L2.Binds K (PySem.W.fnOf x x pg [.Try [.Expr (.Call (.Name a p1) [] [] p2) p3] [.ExceptHandler (some (.Name e p4)) (some n) [.Return (some (.Attribute (.Name n p5) fl p6)) p7] p8] [] [] p9, .Return (some (.Constant (.str ⟨#[]⟩) j p10)) p11] sg dV kV doc pm an cdv ct) [a] [] ∧
    FnScope [a, n] [a] sg ∧ Vis sg a ∧ sg.names.lookup e = some .globalImplicit ∧ mg e = some (.ref (G.exc 0)) ∧ (e == ("__debug__" : Str)) = false ∧ sg.names.lookup n = some .local ∧ XfC K (G.exc 0) ∧ PySem.W.findIn K (.ref (G.exc 0)) fl = some none ∧
    PySem.W.exmOne K (.ref (G.exc 0)) (.ref (G.exc 0)) = some true ∧ (n == ("__debug__" : Str)) = false ∧ (n == ("__classdict__" : Str)) = false ∧ fl = "name" ∧ G.fld 0 = fl ∧
    (a == ("__debug__" : Str)) = false ∧ (a == ("__classdict__" : Str)) = false ∧
    TabB base mg c PT ∧ code = .ref c ∧ (PT, qual ++ "<lambda>") ∈ G.T ∧ ∀ p ∈ G.T, p.1 = PT → p.2 = qual ++ "<lambda>"
structure PrOk (G : GI) (T : Tb) (dfs : List DF) (P : Program) (w : World) (K : PySem.W.Frag) (mg : Str → Option Value) (base : Heap) : Prop where
  hK : G.K = K
  fn : ∀ (f : Nat) (d : DF), dfs[f]? = some d → FunD K d.nm d.nm d.pr d.body d.sc [] [] (G.fi f).a (G.fi f).fd ∧ mg d.nm = some (.ref (G.fi f).a) ∧ L2.Binds K (G.fi f).fd (G.fi f).ps [] ∧ (G.fi f).ps = d.ps ∧
    (d.lam = true → LamD G K mg base (G.fi f).fd.code (d.nm ++ ".<locals>.") T.rf)
  nms : T.nms = dfs.map (·.nm)
  ck : ∀ (f : Nat) (d : DF), dfs[f]? = some d → dfB T d = true
  kw : ∀ (f n : Nat) (ks : List Str) (perm : List Nat), (f, n, ks, perm) ∈ T.kws → KwOk K (G.fi f).fd (G.fi f).ps n ks perm
  gl : ∀ (x : Str) (c : D), T.gls.lookup x = some c → ∃ u v, mg x = some u ∧ RelV v u ∧ ∀ P, Rp G.K P v c
  bl : ∀ x ∈ T.bls, mg x = none
  ex : ∀ (c : Nat) (x : Str), (c, x) ∈ T.exs → ∃ fI, PySem.OwnX.OwnTxt P K mg x (G.fld c) (G.exc c) fI
section
variable {G : GI} {T : Tb} {dfs : List DF} {P : Program} {w : World} {K : PySem.W.Frag} {mg : Str → Option Value} {base : Heap}
theorem start_rel {P : Hp} {r : List Addr} {N : List Str} {vs : List V} {args : List Val} (h : RepL G P r vs args) (hl : args.length ≤ N.length) : RelE G P r (L2.start N vs) (startE N.length args) := by
  have e1 : vs.length = args.length := h.length
  refine ⟨by unfold startE L2.start; simp [e1], fun i v e => ?_⟩
  unfold startE at e
  unfold L2.start
  by_cases hi : i < args.length
  · rw [List.getElem?_append_left (by simpa using hi), List.getElem?_map] at e
    cases q : args[i]? with
    | none => rw [q] at e; cases e
    | some u =>
      rw [q] at e
      cases e
      obtain ⟨x, hx, rx⟩ := RepL.getR h q
      refine ⟨x, ?_, rx⟩
      rw [List.getElem?_append_left (by simp; omega), List.getElem?_map, hx]
      rfl
  · rw [List.getElem?_append_right (by simp; omega)] at e
    rw [List.getElem?_replicate] at e
    split at e <;> cases e
theorem take_same {r t : List Addr} {n : Nat} (h : r.length = n) : (r ++ t).take n = r := by
  rw [← h]
  simp
/-- behind the body: what is wanted of the call is wanted of the body -/
theorem end_core {O P0 H0 : Hp} {r : List Addr} {h : Hq} {Q : VK} {E : XK} {y : Fl × Hq} {z : Ev.R × Hq} (R : RelH G O P0 H0 r h) (e : endF h (some y) = some z) (pv : PV G O P0 r Q E z) : PVS G O P0 r { nx := fun _ H' => Q .non H', rt := Q } E y := by
  have hr := R.len
  have cut : ∀ {P1 H1 : Hp} {r1 : List Addr} {h1 : Hq}, Fut P0 r P1 r1 → RelH G O P1 H1 r1 h1 → RelH G O P1 H1 r (h1.take h.length) ∧ Fut P0 r P1 r := fun {P1 H1 r1 h1} f R1 => by
    obtain ⟨s, t, rfl⟩ := f
    have := R1.cut h.length
    rw [take_same hr] at this
    exact ⟨this, s, [], by simp⟩
  obtain ⟨y, h1⟩ := y
  cases y with
  | nx env =>
    simp only [endF] at e
    cases e
    intro P1 r1 H1 σ1 f R1 re
    obtain ⟨c1, c2⟩ := cut f R1
    exact pv P1 r H1 .non c2 c1 .non
  | brk env => cases e
  | cont env => cases e
  | ret v =>
    intro P1 r1 H1 x f R1 rv
    cases v with
    | d d =>
      simp only [endF] at e
      cases e
      obtain ⟨c1, c2⟩ := cut f R1
      exact pv P1 r H1 x c2 c1 rv
    | ref n =>
      simp only [endF] at e
      split at e
      · rename_i hn
        cases e
        obtain ⟨c1, c2⟩ := cut f R1
        obtain ⟨a, rfl, ha⟩ := rv
        obtain ⟨s, t, rfl⟩ := f
        rw [List.getElem?_append_left (by omega)] at ha
        exact pv P1 r H1 _ c2 c1 ⟨a, rfl, ha⟩
      · cases e
        exact pv P1 r1 H1 x f R1 rv
  | exc c p =>
    simp only [endF] at e
    cases e
    intro P1 r1 H1 d x f R1 hd rp
    obtain ⟨c1, c2⟩ := cut f R1
    exact pv P1 r H1 d x c2 c1 hd rp
theorem all_ok (pr : PrOk G T dfs P w K mg base) : ∀ (k f : Nat) (d : DF), dfs[f]? = some d → FnOk P w K mg base (L2.CX P w) (4 * k) (G.fi f).a (G.fi f).fd (G.fi f).ps (spF G (callF (dfs.map (·.fn)) k) f)
  | 0, f, d, hf => ⟨fun vs H Q E ⟨_, _, _, _, _, _, _, _, e, _⟩ => by simp [callF] at e, fun A outer s H args us vs Q E _ _ _ _ ⟨_, _, _, _, _, _, _, _, e, _⟩ => by simp [callF] at e⟩
  | k + 1, f, d, hf => by
    have ih := all_ok pr k
    obtain ⟨FD, hmg, hb, hps, hlam⟩ := pr.fn f d hf
    have hck := pr.ck f d hf
    unfold dfB at hck
    simp only [Bool.and_eq_true, decide_eq_true_eq] at hck
    obtain ⟨⟨⟨k1, k2⟩, k3⟩, k4⟩ := hck
    have S := scB_ok k1
    have hfn : (dfs.map (·.fn))[f]? = some d.fn := by rw [List.getElem?_map, hf]; rfl
    have nmf : ∀ (g : Nat) (x : Str), T.nms[g]? = some x → ∃ d', dfs[g]? = some d' ∧ d'.nm = x := fun g x e => by
      rw [pr.nms, List.getElem?_map] at e
      cases q : dfs[g]? with
      | none => rw [q] at e; cases e
      | some d' => rw [q] at e; exact ⟨d', rfl, Option.some.inj e⟩
    obtain ⟨oc, od, dV, kV, doc, pm, an, cdv, ct, osl, hfd, lk, hcd, _, _⟩ := FD.ex
    rw [hps]
    rw [hfd] at lk hlam ⊢
    refine fn_of (N := d.N) (k := 4 * k + 3) lk hcd S (fun vs H Q E sp => ?_) fun A outer s H vs Q E hr sp => ?_
    · obtain ⟨O, P0, r, args, h, z, R, rl, e, pv⟩ := sp
      simp only [callF, hfn] at e
      split at e
      · rename_i hl
        rw [rl.length, hl, k2]
      · cases e
    · obtain ⟨O, P0, r, args, h, z, R, rl, e, pv⟩ := sp
      simp only [callF, hfn] at e
      split at e
      · rename_i hl
        have ct : CtOk G T (callF (dfs.map (·.fn)) k) (4 * k) (cxOf (L2.CX P w) P w K mg base d.N d.nm d.sc (G.fi f).a cdv A outer s H E) E ⟨d.N, d.sc, fun _ => true, d.lam⟩ := by
          refine ⟨⟨pr.hK, ?_, rfl, S.nd, takes_of rfl rfl rfl rfl⟩, rfl, rfl, rfl, hr.mono (by omega), ⟨fun g x e => ?_, pr.kw, pr.gl, pr.bl, pr.ex⟩, fun hl => ⟨⟨?_⟩, hr.mono (by omega)⟩⟩
          · have := hr.un
            show (A.deeper _).units + 100 < cLine
            omega
          · obtain ⟨d', hd', rfl⟩ := nmf g x e
            obtain ⟨FD', h2, h3, h4, _⟩ := pr.fn g d' hd'
            exact ⟨h2, FD'.kp, h3, ih g d' hd'⟩
          · exact hlam hl
        refine ⟨RS G (evSs (callF (dfs.map (·.fn)) k) d.fn.body) E, (ckSs_ok d.fn.body).run _ _ _ _ ct (passes_of rfl) k4, ?_⟩
        cases hy : evSs (callF (dfs.map (·.fn)) k) d.fn.body (startE d.fn.names args) h with
        | none => rw [hy] at e; cases e
        | some y =>
          rw [hy] at e
          refine ⟨O, P0, r, startE d.fn.names args, h, y, R, ?_, hy, end_core R e pv⟩
          rw [k3]
          refine start_rel rl ?_
          have hpre := congrArg List.length S.pre
          rw [List.length_take] at hpre
          omega
      · cases e
end
end Ev
end

section
set_option Elab.async false
set_option linter.all false
set_option maxRecDepth 100000
set_option autoImplicit false
/-! the end: a law's statement from what callF says -/
namespace Ev
open PySem PySem.Spec PyProof.Rows L2 RZ LamX
theorem zip_lookup : ∀ {ns : List Str} {us : List Value} {x : Str}, us.length = ns.length → x ∈ ns → ((ns.zip us).lookup x).isSome = true
  | [], _, _, _, h => by simp at h
  | n :: ns, [], _, hl, _ => by simp at hl
  | n :: ns, u :: us, x, hl, h => by
    simp only [List.zip_cons_cons, List.lookup_cons]
    cases e : x == n with
    | true => rfl
    | false =>
      refine zip_lookup (by simpa using hl) ?_
      rcases List.mem_cons.mp h with rfl | h
      · simp at e
      · exact h
theorem fm_congr {α β : Type} {f g : α → Option β} : ∀ {l : List α}, (∀ x ∈ l, f x = g x) → l.filterMap f = l.filterMap g
  | [], _ => rfl
  | a :: l, h => by
    rw [List.filterMap_cons, List.filterMap_cons, h a (List.mem_cons_self ..), fm_congr fun x hx => h x (List.mem_cons_of_mem _ hx)]
theorem zip_filter : ∀ {ns : List Str} {us : List Value}, us.length = ns.length → ns.Nodup → ns.filterMap (fun n => ((ns.zip us).lookup n).map (n, ·)) = ns.zip us
  | [], _, _, _ => by simp
  | n :: ns, [], hl, _ => by simp at hl
  | n :: ns, u :: us, hl, nd => by
    obtain ⟨h1, h2⟩ := List.nodup_cons.mp nd
    have ih := zip_filter (ns := ns) (us := us) (by simpa using hl) h2
    rw [List.filterMap_cons]
    simp only [List.zip_cons_cons, List.lookup_cons, beq_self_eq_true, Option.map_some]
    congr 1
    refine Eq.trans (fm_congr fun m hm => ?_) ih
    have e : (m == n) = false := by
      cases e : m == n with
      | false => rfl
      | true =>
        obtain rfl := eq_of_beq e
        exact absurd hm h1
    rw [e]
theorem bind_all {fd : FuncData} {as : List Arg} {us : List Value} (hp : fd.params = ⟨[], as, none, [], [], none, []⟩) (hd : fd.defaults = .none) (nd : (as.map (·.arg)).Nodup) (hl : us.length = (as.map (·.arg)).length) : bindArgs fd ⟨us, []⟩ = pure ((as.map (·.arg)).zip us) := by
  unfold bindArgs
  rw [hp, hd]
  have e0 : seqItems? Value.none = pure none := rfl
  have em : ((as.map (·.arg)).filter fun n => (((as.map (·.arg)).zip us).lookup n).isNone) = [] := by
    rw [List.filter_eq_nil_iff]
    intro a ha
    have := zip_lookup hl ha
    cases q : ((as.map (·.arg)).zip us).lookup a with
    | none => rw [q] at this; cases this
    | some v => simp
  simp only [List.forIn_nil, pure_bind, e0, Option.getD_none, List.map_nil, List.nil_append, List.append_nil]
  have hg : (decide (us.length > (as.map (·.arg)).length) && (none : Option Arg).isNone) = false := by simp [hl]
  rw [hg]
  rw [if_neg (by decide)]
  simp only [List.drop_nil, List.length_nil, Nat.sub_zero, List.take_length, em, List.isEmpty_nil, Bool.not_true, Bool.false_eq_true, if_false, List.zip_nil_right, List.forIn_nil, pure_bind, zip_filter hl nd]

/-! exceptions, as the head tells them -/
def clsB (K : PySem.W.Frag) (C : Addr) : Bool := match K.lookup C with
  | some ⟨.type T, _, .cls ⟨_, _, .ref C' :: bm, _, _, true, _, _, _, _, false⟩, ⟨[_, _, _, _, some (.builtin i), _]⟩⟩ => decide (T = "type") && decide (C' = C) && HandSPX.refsVE bm && decide (PySem.W.alongIn K "__init__" bm = some (some (.builtin "ValueError.__init__"))) && decide (i = "ValueError.__new__")
  | _ => false
def strAt (v : Option Value) (file : Str) : Bool := match v with
  | some (.str g _) => decide (g = file)
  | _ => false
theorem strAt_ok {v : Option Value} {file : Str} (h : strAt v file = true) : ∃ t, v = some (.str file t) := by
  unfold strAt at h
  split at h
  · obtain rfl := of_decide_eq_true h
    exact ⟨_, rfl⟩
  · cases h
def fileB (o : Option Obj) (file : Str) : Bool := match o with
  | some ⟨_, _, .fields vs, _⟩ => strAt vs[2]? file
  | _ => false
theorem fileB_ok {o : Option Obj} {file : Str} (h : fileB o file = true) : ∃ c d vs s t, o = some ⟨c, d, .fields vs, s⟩ ∧ vs[2]? = some (.str file t) := by
  unfold fileB at h
  split at h
  · obtain ⟨t, e⟩ := strAt_ok h
    exact ⟨_, _, _, _, t, rfl, e⟩
  · cases h
def cellB (o : Option Obj) (C : Addr) : Bool := match o with
  | some ⟨_, _, .cell (some (.ref A)), _⟩ => decide (A = C)
  | _ => false
theorem cellB_ok {o : Option Obj} {C : Addr} (h : cellB o C = true) : ∃ c d s, o = some ⟨c, d, .cell (some (.ref C)), s⟩ := by
  unfold cellB at h
  split at h
  · obtain rfl := of_decide_eq_true h
    exact ⟨_, _, _, rfl⟩
  · cases h
def initB (K : PySem.W.Frag) (C fI : Addr) (f file : Str) : Bool := match K.lookup fI with
  | some ⟨_, _, .func ⟨_, q, ⟨[], [a1, a2], none, [], [], none, []⟩, .stmts [.Expr (.Call (.Attribute (.Call (.Name s0 _) [] [] _) s1 p2) [.Name s2 _] [] p4) _, .Assign [.Attribute (.Name s3 _) s4 _] (.Name s5 _) _], scope, gl, [(s6, cc)], .none, _, _, _, _, .ref cda, _, bt⟩, _⟩ =>
    decide (s0 = "super") && decide (s1 = "__init__") && decide (s2 = f) && decide (s3 = "self") && decide (s4 = f) && decide (s5 = f) && decide (s6 = "__class__") && decide (gl = mainGlobals) && decide (bt = builtinsNs) && PySem.W.codeIn K (.ref cda) q && (p2.endLine == p4.line) && decide (a1.arg = "self") && decide (a2.arg = f) &&
    fileB (K.lookup cda) file && cellB (K.lookup cc) C &&
    decide (scope.kind = .function) && !scope.isCoroutine && !scope.isGenerator && (scope.names.all fun y => decide (y.2 ≠ .cell)) && decide (scope.names.lookup ("self" : Str) = some .local) && decide (scope.names.lookup f = some .local) && decide (scope.names.lookup ("super" : Str) = some .globalImplicit) && decide (scope.names.lookup ("__class__" : Str) = some .free)
  | _ => false
def exB (K : PySem.W.Frag) (x f file : Str) : Bool := clsB K (He.ga K x) && initB K (He.ga K x) (He.ma K (He.ga K x) "__init__") f file && decide (PySem.W.findIn K (.ref (He.ga K x)) "__setattr__" = some (some (.builtin "object.__setattr__"))) && decide (PySem.W.findIn K (.ref (He.ga K x)) f = some none) &&
  decide (PySem.W.findIn K (.ref (He.ga K x)) "__init__" = some (some (.ref (He.ma K (He.ga K x) "__init__")))) && decide (PySem.W.typeIn K (.ref (He.ma K (He.ga K x) "__init__")) = some (.type "function")) && PySem.W.keepIn K (.ref (He.ga K x)) && decide (PySem.W.subIn K (.ref (He.ga K x)) (.type "BaseException") = some true) &&
  decide (PySem.W.subIn K (.ref (He.ga K x)) (.type "ValueError") = some true) && decide (PySem.W.nsIn K cStatics "thirdparty.any" = some none) && decide (PySem.W.typeIn K (.ref (He.ga K x)) = some (.type "type")) && (decide (f = "name") || decide (f = "word") || decide (f = "line"))
theorem clsB_ok {K : PySem.W.Frag} {C : Addr} (h : clsB K C = true) : ∃ nm q N bs bm sn sub ab col dd k0 k1 k2 k3 k5, K.lookup C = some (excClassObj nm q C N bs bm true sn sub ab col dd k0 k1 k2 k3 k5 "ValueError.__new__") ∧ HandSPX.refsVE bm = true ∧ PySem.W.alongIn K "__init__" bm = some (some (.builtin "ValueError.__init__")) := by
  unfold clsB at h
  split at h
  · rename_i e
    simp only [Bool.and_eq_true, decide_eq_true_eq] at h
    obtain ⟨⟨⟨⟨rfl, rfl⟩, h1⟩, h2⟩, rfl⟩ := h
    exact ⟨_, _, _, _, _, _, _, _, _, _, _, _, _, _, _, e, h1, h2⟩
  · cases h
theorem exB_ok {P : Program} {K : PySem.W.Frag} {mg : Str → Option Value} {x f file : Str} (h : exB K x f file = true) (g : mg x = some (.ref (He.ga K x))) (sup : mg "super" = none) (hf : P.main.file = file) (top : (P.main.scope.names.lookup ("super" : Str)).isSome = false) : PySem.OwnX.OwnTxt P K mg x f (He.ga K x) (He.ma K (He.ga K x) "__init__") := by
  unfold exB at h
  simp only [Bool.and_eq_true, decide_eq_true_eq, Bool.or_eq_true] at h
  obtain ⟨⟨⟨⟨⟨⟨⟨⟨⟨⟨⟨h1, h2⟩, h3⟩, h4⟩, h5⟩, h6⟩, h7⟩, h8⟩, h9⟩, h10⟩, h11⟩, h12⟩ := h
  refine ⟨g, clsB_ok h1, h3, h4, h5, h6, h7, h8, h9, h10, h11, sup, top, ?_, by rcases h12 with (h | h) | h; exact .inl h; exact .inr (.inl h); exact .inr (.inr h)⟩
  unfold initB at h2
  split at h2
  · rename_i lk
    simp only [Bool.and_eq_true, decide_eq_true_eq, Bool.not_eq_true', List.all_eq_true] at h2
    obtain ⟨⟨⟨⟨⟨⟨⟨⟨⟨⟨⟨⟨⟨⟨⟨⟨⟨⟨⟨⟨⟨⟨rfl, rfl⟩, e2⟩, rfl⟩, e4⟩, e5⟩, rfl⟩, rfl⟩, rfl⟩, c1⟩, c2⟩, c3⟩, c4⟩, c5⟩, c6⟩, c7⟩, c8⟩, c9⟩, c10⟩, c11⟩, c12⟩, c13⟩, c14⟩ := h2
    subst e2
    subst e4
    obtain ⟨cc1, d1, vs, s1, t1, lcd, hv⟩ := fileB_ok c5
    obtain ⟨cc2, d2, s2, lcc⟩ := cellB_ok c6
    subst e5
    exact ⟨_, _, _, _, _, _, _, _, _, _, _, _, _, _, _, _, _, _, _, _, _, _, _, _, _, _, _, _, _, _, _, _, _, _, lk, c1, c2, c3, c4, lcd, hv, by rw [hf]; exact beq_self_eq_true _, lcc, c7, c8, c9, c10, c11, c12, c13, c14⟩
  · cases h2
/-! the law's data -/
structure LD where
  dfs : List DF
  T : Tb
  rf : He.DefD
  file : Str
  ba : Str
  xs : List (Str × Str)
  cis : List (Str × Int)
  fL : Nat
def dd (d : DF) : He.DefD := ⟨(d.nm, none), d.nm, d.nm, d.pr, d.body, d.sc, [], []⟩
def LD.fa (L : LD) : List He.Fa := [.exm L.ba L.ba true, .free "super", .glo L.rf.name] ++ (L.dfs.map (fun d => He.Fa.glo d.nm) ++ (L.xs.map (fun e => He.Fa.glo e.1) ++ (L.T.bls.map He.Fa.free ++ L.cis.map (fun p => He.Fa.int p.1 p.2))))
def LD.fn (L : LD) : List He.DefD := L.rf :: L.dfs.map dd
def fdOf (K : PySem.W.Frag) (a : Addr) : FuncData := match K.lookup a with
  | some ⟨_, _, .func fd, _⟩ => fd
  | _ => default
def LD.ex (L : LD) (K : PySem.W.Frag) : Bool := (L.xs.all fun e => exB K e.1 e.2 L.file) && xfB K (He.ga K L.ba) && decide (PySem.W.findIn K (.ref (He.ga K L.ba)) "name" = some none) && decide ((fdOf K (He.ga K "law")).code = .ref (He.cT K ("law", none)).1)
def LD.G (L : LD) (K : PySem.W.Frag) : GI where
  K := K
  T := [((He.cT K ("law", none)).2, "law.<locals>.<lambda>")]
  exc := fun c => He.ga K (match L.xs[c]? with
    | some e => e.1
    | none => L.ba)
  fld := fun c => match L.xs[c]? with
    | some e => e.2
    | none => "name"
  fi := fun f => match L.dfs[f]? with
    | some d => ⟨He.fAd K (d.nm, none), fdOf K (He.fAd K (d.nm, none)), d.ps⟩
    | none => ⟨0, default, []⟩
def prB (d : DF) : Bool := match d.pr with
  | ⟨[], as, none, [], [], none, []⟩ => decide (as.map (·.arg) = d.ps) && decide d.ps.Nodup
  | _ => false
def rfB (d : He.DefD) (rf ba : Str) : Bool := decide (d.name = rf) && decide (d.qual = rf) && decide (d.at_ = (rf, none)) && decide (d.dfl.length = 0) && decide (d.kwd.length = 0) && (match d.params, d.body with
  | ⟨[], [pa], none, [], [], none, []⟩, [.Try [.Expr (.Call (.Name a _) [] [] _) _] [.ExceptHandler (some (.Name e _)) (some n) [.Return (some (.Attribute (.Name n2 _) fl _)) _] _] [] [] _, .Return (some (.Constant (.str s) _ _)) _] =>
    decide (pa.arg = a) && decide (e = ba) && decide (n2 = n) && decide (fl = "name") && decide (s = ⟨#[]⟩) && scB [a, n] [a] d.scope && decide (d.scope.names.lookup e = some .globalImplicit) && okn e && decide (d.scope.names.lookup n = some .local) && okn n && okn a
  | _, _ => false)
/-- what is checked of the text -/
def LD.ok (L : LD) (P : Program) : Bool := (L.dfs.all fun d => dfB L.T d && prB d && (!d.lam || decide (d.nm = "law"))) && decide (L.T.nms = L.dfs.map (·.nm)) && rfB L.rf L.T.rf L.ba && decide (P.main.file = L.file) && !(P.main.scope.names.lookup ("super" : Str)).isSome &&
  decide (L.xs[0]? = some (L.ba, ("name" : Str))) && (L.T.exs.all fun q => decide ((L.xs[q.1]?.map (·.1)) = some q.2)) && (L.T.gls.all fun q => L.cis.any fun p => decide (p.1 = q.1) && dI (.int p.2) q.2) && (match L.dfs[L.fL]? with
    | some d => decide (d.nm = "law") && decide (d.ps = [("script" : Str)])
    | none => false)
theorem fdOf_eq {K : PySem.W.Frag} {x qual : Str} {params : Arguments} {body : List Stmt} {scope : Scope} {dvs : List V} {kws : List (Str × V)} {f : Addr} {fd : FuncData} (F : FunD K x qual params body scope dvs kws f fd) : fd = fdOf K f := by
  obtain ⟨oc, od, dV, kV, doc, pm, an, cdv, ct, osl, hfd, lk, _⟩ := F.ex
  unfold fdOf
  rw [lk]
theorem prB_ok {d : DF} (h : prB d = true) : ∃ as, d.pr = ⟨[], as, none, [], [], none, []⟩ ∧ as.map (·.arg) = d.ps ∧ d.ps.Nodup := by
  unfold prB at h
  split at h
  · rename_i as e
    simp only [Bool.and_eq_true, decide_eq_true_eq] at h
    exact ⟨as, e, h.1, h.2⟩
  · cases h
theorem binds_of {K : PySem.W.Frag} {x : Str} {params : Arguments} {body : List Stmt} {scope : Scope} {f : Addr} {fd : FuncData} {as : List Arg} (F : FunD K x x params body scope [] [] f fd) (hp : params = ⟨[], as, none, [], [], none, []⟩) (nd : (as.map (·.arg)).Nodup) : L2.Binds K fd (as.map (·.arg)) [] :=
  F.bindsN fun kV doc pm an cdv ct us hl => bind_all hp rfl nd hl
/-- how a site with keywords is bound, told of the text -/
def KwT (L : LD) : Prop := ∀ q ∈ L.T.kws, ∃ d, L.dfs[q.1]? = some d ∧ ∀ (kV doc pm : Value) (an : Option Addr) (cdv ct : Value) (us ws : List Value), us.length = q.2.1 → ws.length = q.2.2.1.length →
  bindArgs (PySem.W.fnOf d.nm d.nm d.pr d.body d.sc .none kV doc pm an cdv ct) ⟨us, q.2.2.1.zip ws⟩ = pure (d.ps.zip (permL (us ++ ws) q.2.2.2))
theorem rf_lam {G : GI} {d : He.DefD} {rf ba : Str} {K : PySem.W.Frag} {mg : Str → Option Value} {base : Heap} {code : Value} {c PT : Addr} (hrf : rfB d rf ba = true)
    (F : ∃ fd, FunD K d.name d.qual d.params d.body d.scope (d.dvs K) (d.kws K) (He.fAd K d.at_) fd) (g : mg d.name = some (.ref (He.ga K d.name))) (gb : mg ba = some (.ref (G.exc 0))) (xf : XfC K (G.exc 0)) (hno : PySem.W.findIn K (.ref (G.exc 0)) "name" = some none)
    (hex : PySem.W.exmOne K (.ref (G.exc 0)) (.ref (G.exc 0)) = some true) (hf0 : G.fld 0 = "name") (hcode : code = .ref c) (tb : TabB base mg c PT) (hT : G.T = [(PT, (("law" : Str) ++ ".<locals>.") ++ "<lambda>")]) : LamD G K mg base code (("law" : Str) ++ ".<locals>.") rf := by
  obtain ⟨at_, name, qual, params, body, scope, dfl, kwd⟩ := d
  unfold rfB at hrf
  simp only [Bool.and_eq_true, decide_eq_true_eq] at hrf
  obtain ⟨⟨⟨⟨⟨h1, h2⟩, h3⟩, h4⟩, h5⟩, h6⟩ := hrf
  split at h6
  · rename_i pa a p1 p2 p3 e p4 n n2 p5 fl p6 p7 p8 p9 s j p10 p11
    simp only [Bool.and_eq_true, decide_eq_true_eq] at h6
    obtain ⟨⟨⟨⟨⟨⟨⟨⟨⟨⟨q1, q2⟩, q3⟩, q4⟩, q5⟩, q6⟩, q7⟩, q8⟩, q9⟩, q10⟩, q11⟩ := h6
    obtain rfl := List.eq_nil_of_length_eq_zero h4
    obtain rfl := List.eq_nil_of_length_eq_zero h5
    obtain ⟨fd, F⟩ := F
    have F : FunD K name qual ⟨[], [pa], none, [], [], none, []⟩ _ scope [] [] (He.fAd K at_) fd := F
    dsimp only at g h1 h2 h3
    subst h1
    subst h2
    subst h3
    subst q2
    subst q3
    subst q5
    have hb := binds_of F rfl (by simp)
    have kp := F.kp
    obtain ⟨oc, od, dV, kV, doc, pm, an, cdv, ct, osl, hfd, lk, hcd, _, _⟩ := F.ex
    rw [hfd] at hb lk
    have S := scB_ok q6
    have ha : ([pa] : List Arg).map (·.arg) = [a] := by simp [q1]
    rw [ha] at hb
    have hva : Vis scope a := by
      rcases S.par a (by simp) with z | z
      · exact .inl z
      · exact .inr (.inl z)
    exact ⟨a, _, _, fl, _, c, PT, _, scope, dV, kV, doc, pm, cdv, ct, oc, an, od, osl, j, p1, p2, p3, p4, p5, p6, p7, p8, p9, p10, p11, g, kp, lk, hcd, hb, S, hva, q7, gb, okn_d q8, q9, xf, by rw [q4]; exact hno, hex, okn_d q10, okn_c q10, q4, by rw [hf0, q4], okn_d q11, okn_c q11, tb, hcode, by rw [hT]; exact List.mem_singleton.mpr rfl, fun p hp _ => by
      rw [hT] at hp
      rw [List.mem_singleton.mp hp]⟩
  · cases h6
theorem pr_of {L : LD} {P : Program} {w : World} {K : PySem.W.Frag} {h base : Heap} {mg : Str → Option Value} (ok : L.ok P = true) (kwt : KwT L) (KX : K.In h) (Gn : h.Ns mainGlobals mg) (c : He.SaysX L.fa L.fn [] [("law", none)] L.ex w h K)
    (tb : TabB base mg (He.cT K ("law", none)).1 (He.cT K ("law", none)).2) : PrOk (L.G K) L.T L.dfs P w K mg base := by
  unfold LD.ok at ok
  simp only [Bool.and_eq_true, decide_eq_true_eq, Bool.not_eq_true', List.all_eq_true] at ok
  obtain ⟨⟨⟨⟨⟨⟨⟨⟨o1, o2⟩, o3⟩, o4⟩, o5⟩, o6⟩, o7⟩, o8⟩, o9⟩ := ok
  have hex := c.more
  unfold LD.ex at hex
  simp only [Bool.and_eq_true, decide_eq_true_eq, List.all_eq_true] at hex
  obtain ⟨⟨⟨x1, x2⟩, x3⟩, x4⟩ := hex
  have fact : ∀ f ∈ L.fa, f.ok K = true := fun f hf => c.t.d.facts hf
  have hd : ∀ d ∈ L.dfs, ∃ fd, FunD K d.nm d.nm d.pr d.body d.sc [] [] (He.fAd K (d.nm, none)) fd := fun d hd => by
    have := c.t.d.defs (d := dd d) (by unfold LD.fn; exact List.mem_cons_of_mem _ (List.mem_map_of_mem hd))
    exact this
  have gd : ∀ d ∈ L.dfs, mg d.nm = some (.ref (He.ga K d.nm)) := fun d hd => He.glo_ok KX Gn (fact _ (by unfold LD.fa; simp only [List.mem_append, List.mem_map]; exact .inr (.inl ⟨d, hd, rfl⟩)))
  have gx : ∀ e ∈ L.xs, mg e.1 = some (.ref (He.ga K e.1)) := fun e he => He.glo_ok KX Gn (fact _ (by unfold LD.fa; simp only [List.mem_append, List.mem_map]; exact .inr (.inr (.inl ⟨e, he, rfl⟩))))
  have gf : ∀ x ∈ L.T.bls, mg x = none := fun x hx => He.free_ok KX Gn (fact _ (by unfold LD.fa; simp only [List.mem_append, List.mem_map]; exact .inr (.inr (.inr (.inl ⟨x, hx, rfl⟩)))))
  have gi : ∀ p ∈ L.cis, ∃ t, mg p.1 = some (.int p.2 t) := fun p hp => He.int_ok KX Gn (fact _ (by unfold LD.fa; simp only [List.mem_append, List.mem_map]; exact .inr (.inr (.inr (.inr ⟨p, hp, rfl⟩)))))
  have gsup : mg "super" = none := He.free_ok KX Gn (fact _ (by unfold LD.fa; simp))
  have grf : mg L.rf.name = some (.ref (He.ga K L.rf.name)) := He.glo_ok KX Gn (fact _ (by unfold LD.fa; simp))
  have hexm := He.exm_ok (fact (.exm L.ba L.ba true) (by unfold LD.fa; simp))
  have hba : (L.ba, ("name" : Str)) ∈ L.xs := List.mem_of_getElem? o6
  have e0 : (L.G K).exc 0 = He.ga K L.ba := by
    show He.ga K (match L.xs[0]? with
      | some e => e.1
      | none => L.ba) = _
    rw [o6]
  have f0 : (L.G K).fld 0 = "name" := by
    show (match L.xs[0]? with
      | some e => e.2
      | none => "name") = _
    rw [o6]
  have fiE : ∀ (f : Nat) (d : DF), L.dfs[f]? = some d → (L.G K).fi f = ⟨He.fAd K (d.nm, none), fdOf K (He.fAd K (d.nm, none)), d.ps⟩ := fun f d hf => by
    show (match L.dfs[f]? with
      | some d => (⟨He.fAd K (d.nm, none), fdOf K (He.fAd K (d.nm, none)), d.ps⟩ : FI)
      | none => ⟨0, default, []⟩) = _
    rw [hf]
  refine ⟨rfl, fun f d hf => ?_, o2, fun f d hf => (o1 d (List.mem_of_getElem? hf)).1.1, fun f n ks perm hm => ?_, fun x k hk => ?_, gf, fun n x hx => ?_⟩
  · have hm := List.mem_of_getElem? hf
    obtain ⟨⟨q1, q2⟩, q3⟩ := o1 d hm
    rw [fiE f d hf]
    obtain ⟨fd, F⟩ := hd d hm
    have ef := fdOf_eq F
    obtain ⟨as, p1, p2, p3⟩ := prB_ok q2
    refine ⟨ef ▸ F, gd d hm, ?_, rfl, fun hl => ?_⟩
    · have := binds_of (ef ▸ F : FunD K d.nm d.nm d.pr d.body d.sc [] [] (He.fAd K (d.nm, none)) (fdOf K (He.fAd K (d.nm, none)))) p1 (by rw [p2]; exact p3)
      rw [p2] at this
      exact this
    · have hn : d.nm = "law" := by
        rcases Bool.or_eq_true_iff.mp q3 with z | z
        · rw [hl] at z
          cases z
        · exact of_decide_eq_true z
      rw [hn]
      exact rf_lam (G := L.G K) o3 (c.t.d.defs (d := L.rf) (by unfold LD.fn; exact List.mem_cons_self)) grf (by rw [e0]; exact gx _ hba) (by rw [e0]; exact xfB_ok x2) (by rw [e0]; exact x3) (by rw [e0]; exact hexm) f0 x4 tb rfl
  · obtain ⟨d, hf, hk⟩ := kwt _ hm
    have hm2 := List.mem_of_getElem? hf
    obtain ⟨fd, F⟩ := hd d hm2
    have ef := fdOf_eq F
    have hf : L.dfs[f]? = some d := hf
    rw [fiE f d hf]
    refine ⟨fun s us ws _ h1 h2 => ?_⟩
    obtain ⟨oc, od, dV, kV, doc, pm, an, cdv, ct, osl, hfd, lk, hcd, hD, _⟩ := F.ex
    rcases hD with ⟨_, rfl⟩ | ⟨z, _⟩
    · dsimp only
      rw [← ef, hfd]
      exact .of_eq (hk kV doc pm an cdv ct us ws h1 h2)
    · exact absurd rfl z
  · have hm : (x, k) ∈ L.T.gls := PySem.mem_of_lookup hk
    obtain ⟨p, hp, hq⟩ := List.any_eq_true.mp (o8 _ hm)
    simp only [Bool.and_eq_true, decide_eq_true_eq] at hq
    obtain ⟨t, ht⟩ := gi p hp
    obtain rfl := dI_ok hq.2
    exact ⟨.int p.2 t, .int p.2, by rw [← hq.1]; exact ht, ⟨t, rfl⟩, fun P => .int _⟩
  · have hq := o7 _ hx
    cases e : L.xs[n]? with
    | none => rw [e] at hq; cases hq
    | some y =>
      rw [e] at hq
      have hy : y.1 = x := Option.some.inj hq
      have hm := List.mem_of_getElem? e
      have e1 : (L.G K).exc n = He.ga K y.1 := by
        show He.ga K (match L.xs[n]? with
          | some e => e.1
          | none => L.ba) = _
        rw [e]
      have e2 : (L.G K).fld n = y.2 := by
        show (match L.xs[n]? with
          | some e => e.2
          | none => "name") = _
        rw [e]
      rw [e1, e2, ← hy]
      exact ⟨_, exB_ok (x1 y hm) (gx y hm) gsup o4 o5⟩
/-- the law's plain form -/
def Plain (L : LD) (k : Nat) : Prop := ∀ (b : Bool) (ns : List Int), ns.length ≤ 63 → (∀ z ∈ ns, Builtin.Int.intBits z ≤ 1048576) → ∃ h', callF (L.dfs.map (·.fn)) k L.fL [.ref 0] [.ro b (ns.map PyData.int)] = some (.val (.d (.bool true)), h')
theorem law_at {L : LD} {l : PySem.W.OpenLaw} {w : World} {K : PySem.W.Frag} {h : Heap} {mg : Str → Option Value} {fa : Addr} {k : Nat} (ok : L.ok l.prog = true) (kwt : KwT L) (KX : K.In h) (Gn : h.Ns mainGlobals mg) (c : He.SaysX L.fa L.fn [] [("law", none)] L.ex w h K) (hmg : mg "law" = some (.ref fa)) (pl : Plain L k) :
    LawAtS l w K (L2.CX l.prog w) (4 * k) 63 "script" mg fa h := by
  have ok' := ok
  unfold LD.ok at ok'
  simp only [Bool.and_eq_true] at ok'
  have o9 := ok'.2
  split at o9
  rotate_left
  · cases o9
  rename_i d hf
  simp only [Bool.and_eq_true, decide_eq_true_eq] at o9
  have hd := c.t.d.defs (d := dd d) (by unfold LD.fn; exact List.mem_cons_of_mem _ (List.mem_map_of_mem (List.mem_of_getElem? hf)))
  obtain ⟨fd, F⟩ := hd
  have F : FunD K d.nm d.nm d.pr d.body d.sc [] [] (He.fAd K (d.nm, none)) fd := F
  have gd : mg d.nm = some (.ref (He.ga K d.nm)) := He.glo_ok KX Gn (c.t.d.facts (f := .glo d.nm) (by unfold LD.fa; simp only [List.mem_append, List.mem_map]; exact .inr (.inl ⟨d, List.mem_of_getElem? hf, rfl⟩)))
  have ea : fa = He.fAd K (d.nm, none) := by
    rw [o9.1] at gd
    have := hmg.symm.trans gd
    rw [o9.1]
    exact Value.ref.inj (Option.some.inj this)
  have ef := fdOf_eq F
  have fiE : (L.G K).fi L.fL = ⟨He.fAd K (d.nm, none), fdOf K (He.fAd K (d.nm, none)), d.ps⟩ := by
    show (match L.dfs[L.fL]? with
      | some d => (⟨He.fAd K (d.nm, none), fdOf K (He.fAd K (d.nm, none)), d.ps⟩ : FI)
      | none => ⟨0, default, []⟩) = _
    rw [hf]
  have prm : prB d = true := by
    have o1 := ok'.1.1.1.1.1.1.1.1
    have := List.all_eq_true.mp o1 d (List.mem_of_getElem? hf)
    simp only [Bool.and_eq_true] at this
    exact this.1.2
  obtain ⟨as, p1, p2, p3⟩ := prB_ok prm
  refine ⟨fdOf K (He.fAd K (d.nm, none)), [He.cT K ("law", none)], spF (L.G K) (callF (L.dfs.map (·.fn)) k) L.fL, fun p hp => ?_, fun p hp => ?_, fun p hp => ?_, fun s u => ?_, fun H a ns hl hbits hT hS => ?_, fun base KB GB tb => ?_⟩
  · rw [List.mem_singleton.mp hp]
    exact c.empty _ (List.mem_singleton.mpr rfl)
  · rw [List.mem_singleton.mp hp]
    exact c.out _ (List.mem_singleton.mpr rfl)
  · rw [List.mem_singleton.mp hp]
    exact PySem.W.codeHd_of_K KX (c.hd _ (List.mem_singleton.mpr rfl))
  · have b := FunD.bindsA (ps := ["script"]) F (fun kV doc pm an cdv ct us hu => by
      have e : as.map (·.arg) = [("script" : Str)] := p2.trans o9.2
      rw [← e]
      exact bind_all p1 rfl (by rw [e]; simp) (by rw [e]; exact hu))
    rw [← ef]
    exact b s [u] rfl
  · have hTab : ∀ (b : Bool), SqL K H a (ns.map V.int) → (∀ ob : Ob, ob = .ro b (ns.map PyData.int) → ObOk K (fun _ => none) H a ob) → spF (L.G K) (callF (L.dfs.map (·.fn)) k) L.fL [.ref a] H (fun v _ => v = .bl true) fun _ _ _ => False := fun b _ hob => by
      obtain ⟨h', e⟩ := pl b ns hl hbits
      refine ⟨fun _ => none, fun _ => none, [a], [.ref 0], [.ro b (ns.map PyData.int)], _, ⟨fun b o e => (by cases e), fun b ps e => (by cases e), rfl, fun n b' o e1 e2 => ?_, fun n m b' e1 e2 w1 w2 => ?_, fun p hp => ?_, fun b o e => (by cases e), fun _ _ _ _ => rfl, fun b o e => (by cases e)⟩, .cons ⟨a, rfl, rfl⟩ .nil, e, fun P1 r1 H1 x f R1 rv => ?_⟩
      · cases n with
        | zero =>
          cases e1
          cases e2
          exact hob _ rfl
        | succ n => simp at e1
      · cases n with
        | zero => exact w1.elim
        | succ n => simp at e1
      · have hp2 : p = ((He.cT K ("law", none)).2, ((("law" : Str) ++ ".<locals>.") ++ "<lambda>")) := List.mem_singleton.mp hp
        rw [hp2]
        exact TabS.nil (hT _ (List.mem_singleton.mpr rfl))
      · cases rv
        rfl
    have hz : (ns.map V.int).length ≤ sizeLine := by rw [List.length_map, sizeLine_eq]; omega
    rcases hS with hS | hS
    · exact hTab false (.inl hS) fun ob eo => by
        subst eo
        exact ⟨_, hS, hz, RpAll.of_ints ns⟩
    · exact hTab true (.inr hS) fun ob eo => by
        subst eo
        exact ⟨_, hS, hz, RpAll.of_ints ns⟩
  · have pr := pr_of (base := base) (P := l.prog) ok kwt KX Gn c (tb _ (List.mem_singleton.mpr rfl))
    have := all_ok pr k L.fL d hf
    rw [fiE] at this
    rw [ea]
    rw [o9.2] at this
    exact this
/-! the head's Hook, with the statics' dict -/
def seedE (g : Addr → Option Obj) : List Addr := cStatics :: He.asD g 4
def fragE (g : Addr → Option Obj) : PySem.W.Frag := He.frT g (seedE g)
def seenE (L : LD) (g : Addr → Option Obj) : He.AlX := (He.obsT L.fa L.fn [] (fragE g), L.ex (fragE g) && He.tabsB g [("law", none)] (fragE g))
abbrev SayE (L : LD) (w : World) (h : Heap) (K : PySem.W.Frag) : Prop := He.SaysX L.fa L.fn [] [("law", none)] L.ex w h K
theorem sayE_of {L : LD} {w : World} {h : Heap} (e : seenE L h.get? = He.valX L.fn [] w) : SayE L w h (fragE h.get?) := by
  have a1 := congrArg Prod.fst e
  have a2 := congrArg Prod.snd e
  obtain ⟨b1, b2⟩ := Bool.and_eq_true_iff.mp (show (L.ex (fragE h.get?) && He.tabsB h.get? [("law", none)] (fragE h.get?)) = true from a2)
  have each : ∀ p ∈ [(("law" : Str), (none : Option Str))], PySem.W.codeHdIn (fragE h.get?) (He.cT (fragE h.get?) p).1 (He.cT (fragE h.get?) p).2 = true ∧ ∃ u, h.get? (He.cT (fragE h.get?) p).2 = some u ∧ He.emptyTab u = true := fun p hp => by
    obtain ⟨c1, c2⟩ := Bool.and_eq_true_iff.mp (List.all_eq_true.mp b2 p hp)
    refine ⟨c1, ?_⟩
    cases r : h.get? (He.cT (fragE h.get?) p).2 with
    | none => rw [r] at c2; cases c2
    | some u => rw [r] at c2; exact ⟨u, rfl, c2⟩
  refine ⟨a1, b1, fun p hp => (each p hp).1, fun p hp => ?_, fun p hp => ?_⟩
  · obtain ⟨_, u, r, z⟩ := each p hp
    exact He.frT_none r z
  · obtain ⟨_, u, r, z⟩ := each p hp
    rw [r, He.emptyTab_eq z]
def hookE (L : LD) : PySem.W.Hook where
  α := He.AlX
  obs := fun st => seenE L st.heap.get?
  val := fun w => He.valX L.fn [] w
  says := fun w h => ∃ K : PySem.W.Frag, K.In h ∧ SayE L w h K
  of := fun _ _ q => ⟨_, He.frT_in, sayE_of q⟩
  keeps := fun _ _ _ ⟨K, hK, c⟩ k => ⟨K, hK.keeps k, ⟨c.t, c.more, c.hd, c.out, fun p hp => k _ _ (c.empty p hp)⟩⟩
theorem seenE_eq {L : LD} {g : Addr → Option Obj} {st : Shared} (q : ∀ a, g a = st.heap.get? a) : seenE L g = (hookE L).obs st := by
  obtain rfl : g = st.heap.get? := funext q
  rfl
theorem cx_no {P : Program} {w : World} {H : L2.Hp} {s : Shared} {e : Value} {s' : Shared} (h : L2.CX P w [] H s (fun _ _ _ => False) e s') : False := by
  obtain ⟨_, _, _, _, _, _, _, _, _, _, _, _, h⟩ := h
  exact h
end Ev
end

section
set_option Elab.async false
set_option linter.all false
set_option maxRecDepth 100000
set_option autoImplicit false
/-! plain laws: what the small language's texts come to -/
namespace Ev
open PySem
theorem end_d {h : Hq} {x : D} : endF h (some (.ret (.d x), h)) = some (.val (.d x), h) := by simp only [endF, List.take_length]
theorem end_n {h : Hq} {env : Env} : endF h (some (.nx env, h)) = some (.val (.d .none), h) := by simp only [endF, List.take_length]
theorem end_x {h : Hq} {c : Nat} {p : D} : endF h (some (.exc c p, h)) = some (.exc c p, h) := by simp only [endF, List.take_length]
/-- a comprehension without tests whose turns leave the heap -/
theorem comp_map {k : IK} {l : Nat} {t : Tg} {F : CallS} {elt : Env → Hq → ER} {env : Env} {h : Hq} {g : D → D} : ∀ (items : List D) (i : Nat) (acc : List D), (∀ x ∈ items, ∃ env', asgT t x env = some env' ∧ elt env' h = some (.val (.d (g x)), h)) → loopC k none l t (evTs F []) elt env i items acc h = some (acc ++ items.map g, h)
  | [], i, acc, H => by simp [loopC, endAt]
  | x :: r, i, acc, H => by
    obtain ⟨env', e1, e2⟩ := H x (List.mem_cons_self ..)
    have ih := comp_map (k := k) (l := l) (t := t) (F := F) (elt := elt) (env := env) (h := h) (g := g) r (i + 1) (acc ++ [g x]) fun y hy => H y (List.mem_cons_of_mem _ hy)
    have et : evTs F [] env' h = some (.val (.d (.bool true)), h) := by simp only [evTs]
    simp only [loopC, itemAt, e1, et, e2, ih, List.map_cons, List.append_assoc, List.singleton_append]
/-- with a test -/
theorem comp_filter {k : IK} {l : Nat} {t : Tg} {cond elt : Env → Hq → ER} {env : Env} {h : Hq} {p : D → Bool} {g : D → D} : ∀ (items : List D) (i : Nat) (acc : List D), (∀ x ∈ items, ∃ env', asgT t x env = some env' ∧ cond env' h = some (.val (.d (.bool (p x))), h) ∧ (p x = true → elt env' h = some (.val (.d (g x)), h))) →
    loopC k none l t cond elt env i items acc h = some (acc ++ (items.filter p).map g, h)
  | [], i, acc, H => by simp [loopC, endAt]
  | x :: r, i, acc, H => by
    obtain ⟨env', e1, e2, e3⟩ := H x (List.mem_cons_self ..)
    have ih := fun acc => comp_filter (k := k) (l := l) (t := t) (cond := cond) (elt := elt) (env := env) (h := h) (p := p) (g := g) r (i + 1) acc fun y hy => H y (List.mem_cons_of_mem _ hy)
    simp only [loopC, itemAt, e1, e2]
    cases hp : p x with
    | true => simp only [e3 hp, ih, List.filter_cons, hp, if_true, List.map_cons, List.append_assoc, List.singleton_append]
    | false => simp only [ih, List.filter_cons, hp, Bool.false_eq_true, if_false]
/-- a for whose turns keep something -/
theorem for_inv {k : IK} {src : Option Nat} {l : Nat} {t : Tg} {body : Env → Hq → SR} (hs : src = none) (P : Nat → Env → Hq → Prop) : ∀ (items : List D) (i : Nat) (env : Env) (h : Hq), P i env h →
    (∀ (j : Nat) (x : D) (env : Env) (h : Hq), items[j]? = some x → P (i + j) env h → ∃ env1 env2 h2, asgT t x env = some env1 ∧ body env1 h = some (.nx env2, h2) ∧ P (i + j + 1) env2 h2) →
    ∃ env' h', loopF k src l t body i items env h = some (.nx env', h') ∧ P (i + items.length) env' h'
  | [], i, env, h, p, H => ⟨env, h, by subst hs; simp [loopF, endAt], p⟩
  | x :: r, i, env, h, p, H => by
    obtain ⟨env1, env2, h2, e1, e2, p2⟩ := H 0 x env h rfl p
    obtain ⟨env', h', e3, p3⟩ := for_inv hs P r (i + 1) env2 h2 p2 fun j y env h hj q => by
      have := H (j + 1) y env h (by simpa using hj) (by rw [Nat.add_right_comm, Nat.add_assoc] at q; exact q)
      rw [show i + 1 + j + 1 = i + (j + 1) + 1 by omega]
      exact this
    refine ⟨env', h', ?_, by rw [List.length_cons, show i + (r.length + 1) = i + 1 + r.length by omega]; exact p3⟩
    subst hs
    simp only [loopF, itemAt, e1, e2]
    exact e3
/-! the operators, one by one -/
theorem o_ar {o : B2} {h : Hq} {x : D} : opnd o h (.d x) = some x := by
  unfold opnd
  cases o.arith <;> rfl
theorem s_add {i j : Int} : sem2 .add (.int i) (.int j) = some (.int (i + j)) := rfl
theorem s_sub {i j : Int} : sem2 .sub (.int i) (.int j) = some (.int (i - j)) := rfl
theorem s_mul {i j : Int} (h : mulOk i j = true) : sem2 .mul (.int i) (.int j) = some (.int (i * j)) := if_pos h
theorem s_fdiv {i j : Int} (h : divOk j = true) : sem2 .fdiv (.int i) (.int j) = some (.int (i / j)) := if_pos h
theorem s_mod {i j : Int} (h : 0 < j) : sem2 .mod (.int i) (.int j) = some (.int (i % j)) := if_pos h
theorem s_lt {i j : Int} : sem2 .lt (.int i) (.int j) = some (.bool (decide (i < j))) := rfl
theorem s_le {i j : Int} : sem2 .le (.int i) (.int j) = some (.bool (decide (i ≤ j))) := rfl
theorem s_gt {i j : Int} : sem2 .gt (.int i) (.int j) = some (.bool (decide (j < i))) := rfl
theorem s_ge {i j : Int} : sem2 .ge (.int i) (.int j) = some (.bool (decide (j ≤ i))) := rfl
theorem eqv_int {i j : Int} : PyData.eqv (.int i) (.int j) = decide (i = j) := by
  simp only [PyData.eqv]
  cases e : i == j with
  | true => rw [eq_of_beq e]; simp
  | false => simp only [beq_eq_false_iff_ne] at e; simp [e]
theorem s_eq {i j : Int} : sem2 .eq (.int i) (.int j) = some (.bool (decide (i = j))) := by
  show (if min (PyData.int i).depth (PyData.int j).depth ≤ 40 then some (PyData.bool (PyData.eqv (.int i) (.int j))) else none) = _
  rw [if_pos (by simp [PyData.depth]), eqv_int]
theorem s_ne {i j : Int} : sem2 .ne (.int i) (.int j) = some (.bool (!decide (i = j))) := by
  show (if min (PyData.int i).depth (PyData.int j).depth ≤ 40 then some (PyData.bool (!PyData.eqv (.int i) (.int j))) else none) = _
  rw [if_pos (by simp [PyData.depth]), eqv_int]
theorem small_ok {i : Int} (h1 : -(2 ^ 64) < i) (h2 : i < 2 ^ 64) : smallI i = true := by
  unfold smallI
  rw [decide_eq_true h1, decide_eq_true h2]
  rfl
theorem mul_small {i j : Int} (h1 : -(2 ^ 64) < j) (h2 : j < 2 ^ 64) : mulOk i j = true := by
  unfold mulOk
  rw [small_ok h1 h2, Bool.or_true, Bool.true_or]
theorem mul_small' {i j : Int} (h1 : -(2 ^ 64) < i) (h2 : i < 2 ^ 64) : mulOk i j = true := by
  unfold mulOk
  rw [small_ok h1 h2, Bool.true_or, Bool.true_or]
theorem div_small {j : Int} (h1 : 0 < j) (h2 : j < 2 ^ 4000) : divOk j = true := by
  unfold divOk
  rw [decide_eq_true h1, Bool.true_and]
  refine decide_eq_true ?_
  have := Int.natAbs_of_nonneg (Int.le_of_lt h1)
  exact Int.ofNat_lt.mp (by rw [this]; exact_mod_cast h2)
/-! a comprehension over a range, of whole numbers -/
theorem rangeD_map (a b : Int) (g : Int → Int) : (rangeD a b).map (fun x => match x with
    | .int i => PyData.int (g i)
    | _ => .none) = (List.range (b - a).toNat).map fun i => .int (g (a + (i : Nat))) := by
  unfold rangeD
  rw [List.map_map]
  rfl
theorem mem_range {a b : Int} {x : D} (h : x ∈ rangeD a b) : ∃ i : Int, x = .int i ∧ a ≤ i ∧ i < b := by
  unfold rangeD at h
  obtain ⟨n, hn, rfl⟩ := List.mem_map.mp h
  have := List.mem_range.mp hn
  exact ⟨_, rfl, by omega, by omega⟩
theorem comp_rng {F : CallS} {e : E} {env : Env} {h : Hq} {s : Nat} {a b : Int} {its : List E} {vs : List Val} (g : Int → Int) (hi : evEs F its env h = some (.vals vs, h)) (hs : srcOf .range vs h = some (none, rangeD a b))
    (he : ∀ x : Int, a ≤ x → x < b → evE F e ((env.set s none).set s (some (.d (.int x)))) h = some (.val (.d (.int (g x))), h)) :
    evE F (.comp e (.nm s) .range its [] [s]) env h = some (.val (.d (.list ((List.range (b - a).toNat).map fun i => .int (g (a + (i : Nat)))))), h) := by
  have q := comp_map (k := .range) (l := (rangeD a b).length) (t := .nm s) (F := F) (elt := evE F e) (env := env.set s none) (h := h) (g := fun x => match x with
    | .int i => PyData.int (g i)
    | _ => .none) (rangeD a b) 0 [] fun x hx => by
      obtain ⟨i, rfl, h1, h2⟩ := mem_range hx
      exact ⟨_, rfl, he i h1 h2⟩
  rw [rangeD_map, List.nil_append] at q
  rw [evE, hi]
  simp only [bndA, hs, wipeE]
  rw [q]
theorem ints_map : ∀ l : List Int, intsOf (l.map PyData.int) = some l
  | [] => rfl
  | x :: r => by simp only [List.map_cons, intsOf, ints_map r]
theorem b_sum {n : Nat} {g : Nat → Int} : semB .sum [.list ((List.range n).map fun i => .int (g i))] = some (.int ((List.range n).map g).sum) := by
  have e : ((List.range n).map fun i => PyData.int (g i)) = ((List.range n).map g).map PyData.int := by rw [List.map_map]; rfl
  rw [e]
  show (match intsOf (((List.range n).map g).map PyData.int) with
    | some bs => some (PyData.int bs.sum)
    | none => none) = _
  rw [ints_map]
theorem src_r1 {b : Int} {h : Hq} (ok : rangeOk 0 b = true) : srcOf .range [.d (.int b)] h = some (none, rangeD 0 b) := by
  simp only [srcOf, pureL, semI, if_pos ok]
theorem src_r2 {a b : Int} {h : Hq} (ok : rangeOk a b = true) : srcOf .range [.d (.int a), .d (.int b)] h = some (none, rangeD a b) := by
  simp only [srcOf, pureL, semI, if_pos ok]
theorem rok {a b : Int} (h1 : 0 ≤ a) (h2 : a ≤ 1000) (h3 : 0 ≤ b) (h4 : b ≤ 1000) : rangeOk a b = true := by
  unfold rangeOk line
  simp only [Bool.and_eq_true, decide_eq_true_eq]
  omega
theorem eqv_ints : ∀ l : List Int, PyData.eqvAll (l.map PyData.int) (l.map PyData.int) = true
  | [] => by simp [PyData.eqvAll]
  | x :: r => by simp [PyData.eqvAll, eqv_int, eqv_ints r]
theorem dep_ints : ∀ l : List Int, PyData.depthAll (l.map PyData.int) ≤ 1
  | [] => by simp [PyData.depthAll]
  | x :: r => by
    have := dep_ints r
    simp [PyData.depthAll, PyData.depth]
    omega
theorem ne_ints {l : List Int} : sem2 .ne (.tuple (l.map PyData.int)) (.tuple (l.map PyData.int)) = some (.bool false) := by
  have h1 := dep_ints l
  have h2 : min (PyData.tuple (l.map PyData.int)).depth (PyData.tuple (l.map PyData.int)).depth ≤ 40 := by
    simp only [PyData.depth]
    omega
  have h3 : PyData.eqv (.tuple (l.map PyData.int)) (.tuple (l.map PyData.int)) = true := by simp only [PyData.eqv, eqv_ints]
  show (if min (PyData.tuple (l.map PyData.int)).depth (PyData.tuple (l.map PyData.int)).depth ≤ 40 then some (PyData.bool (!PyData.eqv (.tuple (l.map PyData.int)) (.tuple (l.map PyData.int)))) else none) = _
  rw [if_pos h2, h3]
  rfl
theorem ne_pair {x y : Int} : sem2 .ne (.tuple [.int x, .int y]) (.tuple [.int x, .int y]) = some (.bool false) := ne_ints (l := [x, y])
theorem ne_same {i : Int} : sem2 .ne (.int i) (.int i) = some (.bool false) := by rw [s_ne, decide_eq_true rfl]; rfl
end Ev
end

section
set_option Elab.async false
set_option linter.all false
set_option maxRecDepth 100000
set_option autoImplicit false
/-! the laws' dice -/
namespace Ev
open PySem
theorem v_ref {h : Hq} {n : Nat} {xs : List D} (e : h[n]? = some (.lst xs)) : viewV h (.ref n) = some (.list xs) := by simp only [viewV, e]
theorem lt_of_get {h : Hq} {n : Nat} {o : Ob} (e : h[n]? = some o) : n < h.length := (List.getElem?_eq_some_iff.mp e).1
theorem set_at {h : Hq} {n : Nat} {o o' : Ob} (e : h[n]? = some o) : (h.set n o')[n]? = some o' := List.getElem?_set_self (lt_of_get e)
def fRoll : Fn := ⟨2, 3, [.if_ (.bin .gt (.idx (.var 0) (.con (.int 0))) (.con (.int 0))) [.asg (.nm 2) (.bin .mod (.bi .int [(.idx (.var 0) (.con (.int 0)))]) (.var 1)),
      .setix (.var 0) (.con (.int 0)) (.bin .fdiv (.idx (.var 0) (.con (.int 0))) (.var 1)),
      .ret (.var 2)] [],
      .setix (.var 0) (.con (.int 2)) (.bin .add (.idx (.var 0) (.con (.int 2))) (.con (.int 1))),
      .setix (.var 0) (.con (.int 1)) (.bin .mod (.bi .int [(.bin .add (.bin .add (.bin .mul (.idx (.var 0) (.con (.int 1))) (.con (.int 48271))) (.bin .mul (.bin .mul (.idx (.var 0) (.con (.int 2))) (.idx (.var 0) (.con (.int 2)))) (.con (.int 2003)))) (.con (.int 91)))]) (.con (.int 2147480009))),
      .ret (.bin .mod (.bi .int [(.bin .fdiv (.idx (.var 0) (.con (.int 1))) (.con (.int 197)))]) (.var 1))]⟩
/-- dice of the heap: the digits that are left, the mixed number, the count (at most m) -/
structure Dice (h : Hq) (n : Nat) (m : Int) : Prop where
  ex : ∃ a b c : Int, h[n]? = some (.lst [.int a, .int b, .int c]) ∧ 0 ≤ a ∧ 0 ≤ b ∧ b < 2147480009 ∧ 0 ≤ c ∧ c ≤ m
theorem at0 {x y z : D} : atD [x, y, z] 0 = some x := rfl
theorem at1 {x y z : D} : atD [x, y, z] 1 = some y := rfl
theorem at2 {x y z : D} : atD [x, y, z] 2 = some z := rfl
theorem b_int {i : Int} : semB .int [.int i] = some (.int i) := rfl
theorem ix0 : ixOf 3 0 = some 0 := rfl
theorem ix1 : ixOf 3 1 = some 1 := rfl
theorem ix2 : ixOf 3 2 = some 2 := rfl
theorem vw_d {h : Hq} {x : D} : viewL h [.d x] = some [x] := rfl
theorem it_l {xs : List D} : itemsOf (.list xs) = some xs := rfl
theorem roll_body {F : CallS} {h : Hq} {n : Nat} {m t : Int} (H : Dice h n m) (hm : m < 1000000) (ht : 0 < t) (ht2 : t < 1000000) :
    ∃ (v : Int) (h' : Hq), 0 ≤ v ∧ v < t ∧ evSs F fRoll.body [some (.ref n), some (.d (.int t)), none] h = some (.ret (.d (.int v)), h') ∧ h'.length = h.length ∧ Dice h' n (m + 1) ∧ ∀ j, j ≠ n → h'[j]? = h[j]? := by
  obtain ⟨a, b, c, hn, ha, hb, hb2, hc, hcm⟩ := H.ex
  by_cases h0 : 0 < a
  · refine ⟨a % t, h.set n (.lst [.int (a / t), .int b, .int c]), Int.emod_nonneg _ (by omega), Int.emod_lt_of_pos _ ht, ?_, by simp, ⟨a / t, b, c, set_at hn, Int.ediv_nonneg ha (by omega), hb, hb2, hc, by omega⟩, fun j hj => List.getElem?_set_ne (Ne.symm hj)⟩
    have hd : divOk t = true := div_small ht (by exact Int.lt_trans ht2 (by decide +kernel))
    simp only [fRoll, evSs, evS, evE, evEs, consA, bnd, bndA, sB, sBA, List.getElem?_cons_zero, List.getElem?_cons_succ, v_ref hn, it_l, at0, o_ar, s_gt, decide_eq_true h0, vw_d, b_int, s_mod ht, asgV, asgT, List.set_cons_succ, List.set_cons_zero, s_fdiv hd, hn, List.length_cons, List.length_nil, Nat.zero_add, ix0, Nat.reduceAdd]
  · have h0' : decide (0 < a) = false := decide_eq_false h0
    have hn1 := set_at (o' := .lst [.int a, .int b, .int (c + 1)]) hn
    generalize hb' : (b * 48271 + (c + 1) * (c + 1) * 2003 + 91) % 2147480009 = b'
    have hn2 := set_at (o' := .lst [.int a, .int b', .int (c + 1)]) hn1
    have b1 : 0 ≤ b' := by rw [← hb']; exact Int.emod_nonneg _ (by omega)
    have b2 : b' < 2147480009 := by rw [← hb']; exact Int.emod_lt_of_pos _ (by omega)
    have m1 : mulOk b 48271 = true := mul_small (by omega) (by omega)
    have m2 : mulOk (c + 1) (c + 1) = true := mul_small (by omega) (by omega)
    have m3 : mulOk ((c + 1) * (c + 1)) 2003 = true := mul_small (by omega) (by omega)
    have p1 : (0 : Int) < 2147480009 := by omega
    have d1 : divOk 197 = true := div_small (by omega) (by decide +kernel)
    refine ⟨b' / 197 % t, (h.set n (.lst [.int a, .int b, .int (c + 1)])).set n (.lst [.int a, .int b', .int (c + 1)]), Int.emod_nonneg _ (by omega), Int.emod_lt_of_pos _ ht, ?_, by simp, ⟨a, b', c + 1, hn2, ha, b1, b2, by omega, by omega⟩, fun j hj => by rw [List.getElem?_set_ne (Ne.symm hj), List.getElem?_set_ne (Ne.symm hj)]⟩
    simp only [fRoll, evSs, evS, evE, evEs, consA, bnd, bndA, sB, sBA, List.getElem?_cons_zero, List.getElem?_cons_succ, v_ref hn, v_ref hn1, v_ref hn2, it_l, at0, at1, at2, o_ar, s_gt, h0', vw_d, b_int, s_mod ht, s_mod p1, s_add, s_mul m1, s_mul m2, s_mul m3, asgV, asgT, List.set_cons_succ, List.set_cons_zero, s_fdiv d1, hn, hn1, hn2, List.length_cons, List.length_nil, Nat.zero_add, ix0, ix1, ix2, Nat.reduceAdd, hb']
/-- one roll -/
theorem roll_ok {fns : List Fn} {k f : Nat} {h : Hq} {n : Nat} {m t : Int} (hf : fns[f]? = some fRoll) (H : Dice h n m) (hm : m < 1000000) (ht : 0 < t) (ht2 : t < 1000000) :
    ∃ (v : Int) (h' : Hq), 0 ≤ v ∧ v < t ∧ callF fns (k + 1) f [.ref n, .d (.int t)] h = some (.val (.d (.int v)), h') ∧ h'.length = h.length ∧ Dice h' n (m + 1) ∧ ∀ j, j ≠ n → h'[j]? = h[j]? := by
  obtain ⟨v, h', v1, v2, e, l, D', o⟩ := roll_body (F := callF fns k) H hm ht ht2
  refine ⟨v, h', v1, v2, ?_, l, D', o⟩
  have e' : evSs (callF fns k) fRoll.body (startE fRoll.names [.ref n, .d (.int t)]) h = _ := e
  simp only [callF, hf]
  rw [if_pos (by rfl), e']
  simp only [endF]
  rw [← l, List.take_length]
def fDice : Fn := ⟨2, 5, [.asg (.nm 2) (.ife (.bin .lt (.var 1) (.bi .len [(.var 0)])) (.idx (.var 0) (.var 1)) (.bin .add (.bin .mul (.con (.int 811)) (.var 1)) (.con (.int 37)))),
      .asg (.nm 3) (.bin .add (.con (.int 700001)) (.bin .mul (.con (.int 6947)) (.var 1))),
      .for_ (.nm 4) .seq [(.bin .add (.slice (.var 0) [] [(.con (.int 6))]) (.lst [(.var 2)]))] [.asg (.nm 3) (.bin .mod (.bi .int [(.bin .add (.bin .mul (.var 3) (.con (.int 69621))) (.bin .mod (.bi .int [(.var 4)]) (.con (.int 2147480009))))]) (.con (.int 2147480009)))],
      .ret (.nlst [(.ife (.or_ (.bin .lt (.var 2) (.con (.int 0))) (.bin .ge (.var 2) (.bin .pow (.con (.int 10)) (.con (.int 16))))) (.bi .abs [(.var 2)]) (.con (.int 0))), (.var 3), (.con (.int 0))])]⟩
theorem b_len {xs : List D} : semB .len [.list xs] = some (.int xs.length) := rfl
theorem vw_ref {h : Hq} {n : Nat} {d : D} (e : viewV h (.ref n) = some d) : viewL h [.ref n] = some [d] := by simp only [viewL, e]
theorem dice_loop {F : CallS} {ns : List Int} {a b : Option Val} {l : Nat} {h : Hq} : ∀ (items : List Int) (i : Nat) (m : Int) (c : Option Val), 0 ≤ m → m < 2147480009 → ∃ (m' : Int) (c' : Option Val), 0 ≤ m' ∧ m' < 2147480009 ∧
    loopF .seq none l (.nm 4) (evSs F [.asg (.nm 3) (.bin .mod (.bi .int [(.bin .add (.bin .mul (.var 3) (.con (.int 69621))) (.bin .mod (.bi .int [(.var 4)]) (.con (.int 2147480009))))]) (.con (.int 2147480009)))]) i (items.map PyData.int) [some (.ref 0), a, b, some (.d (.int m)), c] h = some (.nx [some (.ref 0), a, b, some (.d (.int m')), c'], h)
  | [], i, m, c, h1, h2 => ⟨m, c, h1, h2, by simp [loopF, endAt]⟩
  | x :: r, i, m, c, h1, h2 => by
    have m1 : mulOk m 69621 = true := mul_small (by omega) (by omega)
    have p1 : (0 : Int) < 2147480009 := by omega
    obtain ⟨m', c', q1, q2, e⟩ := dice_loop (F := F) (ns := ns) (a := a) (b := b) (l := l) (h := h) r (i + 1) ((m * 69621 + x % 2147480009) % 2147480009) (some (.d (.int x))) (Int.emod_nonneg _ (by omega)) (Int.emod_lt_of_pos _ (by omega))
    refine ⟨m', c', q1, q2, ?_⟩
    simp only [List.map_cons, loopF, itemAt, asgT, evSs, evS, evE, evEs, consA, bnd, bndA, sB, List.set_cons_succ, List.set_cons_zero, List.getElem?_cons_zero, List.getElem?_cons_succ, o_ar, s_mul m1, vw_d, b_int, s_mod p1, s_add, asgV]
    exact e
theorem s_pow : sem2 .pow (.int 10) (.int 16) = some (.int 10000000000000000) := by kernel_rfl
theorem s_add_l {xs ys : List D} (h : xs.length + ys.length ≤ line) : sem2 .add (.list xs) (.list ys) = some (.list (xs ++ ys)) := if_pos h
theorem b_abs {i : Int} : semB .abs [.int i] = some (.int (if i < 0 then -i else i)) := rfl
theorem at_map {ns : List Int} {i : Nat} (h : i < ns.length) : atD (ns.map PyData.int) (i : Nat) = some (.int ns[i]) := by
  unfold atD ixOf
  rw [if_pos (by omega), if_pos (by simp; exact h)]
  simp [h]
theorem cut_map (ns : List Int) (lo hi : Option Int) : ∃ L : List Int, cutD (ns.map PyData.int) lo hi = L.map PyData.int ∧ L.length ≤ ns.length := by
  unfold cutD
  rw [← List.map_drop, ← List.map_take]
  refine ⟨_, rfl, ?_⟩
  rw [List.length_take, List.length_drop]
  omega
theorem dice_ok {fns : List Fn} {k f : Nat} {h : Hq} {b : Bool} {ns : List Int} {spot : Nat} (hf : fns[f]? = some fDice) (hX : h[0]? = some (.ro b (ns.map PyData.int))) (hl : ns.length ≤ 63) (hs : spot < 1000) :
    ∃ (h' : Hq), callF fns (k + 1) f [.ref 0, .d (.int (spot : Nat))] h = some (.val (.ref h.length), h') ∧ h'.length = h.length + 1 ∧ Dice h' h.length 0 ∧ ∀ j, j < h.length → h'[j]? = h[j]? := by
  have hv : viewV h (.ref 0) = some (.list (ns.map PyData.int)) := by simp only [viewV, hX]
  -- what stands at the place, or what is made of it
  have own : ∃ o : Int, ∀ (e1 e2 e3 : Option Val), evE (callF fns k) (.ife (.bin .lt (.var 1) (.bi .len [(.var 0)])) (.idx (.var 0) (.var 1)) (.bin .add (.bin .mul (.con (.int 811)) (.var 1)) (.con (.int 37)))) [some (.ref 0), some (.d (.int (spot : Nat))), e1, e2, e3] h = some (.val (.d (.int o)), h) := by
    have m1 : mulOk 811 (spot : Nat) = true := mul_small' (by omega) (by omega)
    by_cases hc : spot < ns.length
    · have hd : decide (((spot : Nat) : Int) < ((ns.map PyData.int).length : Int)) = true := decide_eq_true (by rw [List.length_map]; omega)
      exact ⟨ns[spot], fun e1 e2 e3 => by simp only [evE, evEs, consA, bnd, bndA, List.getElem?_cons_zero, List.getElem?_cons_succ, vw_ref hv, b_len, o_ar, s_lt, hd, hv, it_l, at_map hc]⟩
    · have hd : decide (((spot : Nat) : Int) < ((ns.map PyData.int).length : Int)) = false := decide_eq_false (by rw [List.length_map]; omega)
      exact ⟨811 * spot + 37, fun e1 e2 e3 => by simp only [evE, evEs, consA, bnd, bndA, List.getElem?_cons_zero, List.getElem?_cons_succ, vw_ref hv, b_len, o_ar, s_lt, hd, s_mul m1, s_add]⟩
  obtain ⟨o, own⟩ := own
  obtain ⟨L, eL, lL⟩ := cut_map ns none (some 6)
  have m2 : mulOk 6947 (spot : Nat) = true := mul_small' (by omega) (by omega)
  have hadd : (L.map PyData.int).length + [PyData.int o].length ≤ line := by
    simp only [List.length_map, List.length_cons, List.length_nil]
    unfold line
    omega
  obtain ⟨m', c', q1, q2, eloop⟩ := dice_loop (F := callF fns k) (ns := ns) (a := some (.d (.int (spot : Nat)))) (b := some (.d (.int o))) (l := (L ++ [o]).length) (h := h) (L ++ [o]) 0 (700001 + 6947 * spot) none (by omega) (by omega)
  have eitems : L.map PyData.int ++ [PyData.int o] = (L ++ [o]).map PyData.int := by simp
  -- the digits
  have dig : ∃ a : Int, 0 ≤ a ∧ evE (callF fns k) (.ife (.or_ (.bin .lt (.var 2) (.con (.int 0))) (.bin .ge (.var 2) (.bin .pow (.con (.int 10)) (.con (.int 16))))) (.bi .abs [(.var 2)]) (.con (.int 0))) [some (.ref 0), some (.d (.int (spot : Nat))), some (.d (.int o)), some (.d (.int m')), c'] h = some (.val (.d (.int a)), h) := by
    by_cases c1 : o < 0
    · have d1 := decide_eq_true c1
      exact ⟨-o, by omega, by simp only [evE, evEs, consA, bnd, bndA, List.getElem?_cons_zero, List.getElem?_cons_succ, o_ar, s_lt, d1, vw_d, b_abs, if_pos c1]⟩
    · have d1 := decide_eq_false c1
      by_cases c2 : (10000000000000000 : Int) ≤ o
      · have d2 := decide_eq_true c2
        exact ⟨o, by omega, by simp only [evE, evEs, consA, bnd, bndA, List.getElem?_cons_zero, List.getElem?_cons_succ, o_ar, s_lt, d1, s_pow, s_ge, d2, vw_d, b_abs, if_neg c1]⟩
      · have d2 := decide_eq_false c2
        exact ⟨0, by omega, by simp only [evE, evEs, consA, bnd, bndA, List.getElem?_cons_zero, List.getElem?_cons_succ, o_ar, s_lt, d1, s_pow, s_ge, d2]⟩
  obtain ⟨a, ha, dig⟩ := dig
  refine ⟨h ++ [.lst [.int a, .int m', .int 0]], ?_, by simp, ⟨a, m', 0, by simp, ha, q1, q2, by omega, by omega⟩, fun j hj => List.getElem?_append_left hj⟩
  simp only [callF, hf]
  rw [if_pos (by rfl)]
  have hb : evSs (callF fns k) fDice.body (startE fDice.names [.ref 0, .d (.int (spot : Nat))]) h = some (.ret (.ref h.length), h ++ [.lst [.int a, .int m', .int 0]]) := by
    show evSs (callF fns k) fDice.body [some (.ref 0), some (.d (.int (spot : Nat))), none, none, none] h = _
    unfold fDice
    rw [evSs, evS, own]
    simp only [sB, asgV, asgT, List.set_cons_succ, List.set_cons_zero]
    rw [evSs, evS]
    simp only [evE, bnd, sB, o_ar, s_mul m2, s_add, asgV, asgT, List.set_cons_succ, List.set_cons_zero, List.getElem?_cons_zero, List.getElem?_cons_succ]
    rw [evSs, evS]
    simp only [evEs, consA, evE, bnd, bndA, partOf, hv, eL, List.getElem?_cons_zero, List.getElem?_cons_succ, pureL, List.length_cons, List.length_nil]
    rw [if_pos (by unfold line; omega)]
    simp only [o_ar, s_add_l hadd, sBA, srcOf, pureL, semI, it_l, eitems, List.length_map]
    rw [eloop]
    simp only
    rw [evSs, evS, evE, evEs, dig]
    simp only [evEs, evE, consA, bndA, sB, pureL, List.getElem?_cons_zero, List.getElem?_cons_succ, List.length_cons, List.length_nil]
    rw [if_pos (by unfold line; omega)]
  rw [hb]
  simp only [endF]
  rw [if_neg (by omega)]
end Ev
end

section
set_option Elab.async false
set_option linter.all false
set_option maxRecDepth 100000
set_option maxHeartbeats 0
namespace Ev
noncomputable section
open PySem
abbrev LL : PySem.W.OpenLaw := PySem.Challenge.rw_coatsback_k13_whole_coats_given_back_by
abbrev RR : PySem.W.OpenRow := PySem.W.OpenLaw.row LL
def top (i : Nat) : Stmt := RR.prog.main.body.getD i (.Pass ⟨0, 0, 0, 0⟩)
def mkD (st : Stmt) (N : List Str) (fn : Fn) (lam : Bool) : DF := match st with
  | .FunctionDef n a b _ _ _ sc _ _ _ => ⟨n, a, b, sc, N, a.args.map (·.arg), fn, lam⟩
  | _ => ⟨⟨#[]⟩, noArgs, [], ⟨.module, [], false, false, []⟩, [], [], fn, false⟩
def rfD : He.DefD := match top 26 with
  | .FunctionDef n a b _ _ _ sc _ _ _ => ⟨(n, none), n, n, a, b, sc, [], []⟩
  | _ => ⟨(⟨#[]⟩, none), ⟨#[]⟩, ⟨#[]⟩, noArgs, [], ⟨.module, [], false, false, []⟩, [], []⟩
/-- demand: 0 is_good, 1 name -/
def f_demand : Fn := ⟨2, 2, [.if_ (.un .not_ (.var 0)) [.raise 0 (.var 1)] []]⟩
/-- is_in: 0 value, 1 low, 2 high -/
def f_is_in : Fn := ⟨3, 3, [.ret (.and_ (.bi .isInt [(.var 0)]) (.and_ (.un .not_ (.bi .isBool [(.var 0)])) (.chain .le .le (.var 1) (.var 0) (.var 2))))]⟩
/-- is_tuple: 0 value, 1 least, 2 most -/
def f_is_tuple : Fn := ⟨3, 3, [.ret (.and_ (.bi .isTup [(.var 0)]) (.chain .le .le (.var 1) (.bi .len [(.var 0)]) (.var 2)))]⟩
/-- are_in: 0 value, 1 least, 2 most, 3 low, 4 high, 5 one -/
def f_are_in : Fn := ⟨5, 6, [.ret (.and_ (.call 2 [(.var 0), (.var 1), (.var 2)]) (.bi .all [(.comp (.call 1 [(.var 5), (.var 3), (.var 4)]) (.nm 5) .seq [(.var 0)] [] [5])]))]⟩
/-- is_order: 0 value, 1 many -/
def f_is_order : Fn := ⟨2, 2, [.ret (.and_ (.call 3 [(.var 0), (.var 1), (.var 1), (.con (.int 0)), (.bin .sub (.var 1) (.con (.int 1)))]) (.bin .eq (.bi .lenset [(.var 0)]) (.var 1)))]⟩
/-- lowest: 0 part, 1 whole, 2 one, 3 other -/
def f_lowest : Fn := ⟨2, 4, [.par [2, 3] [(.bi .abs [(.var 0)]), (.var 1)],
      .while_ (.bin .ne (.var 3) (.con (.int 0))) [.par [2, 3] [(.var 3), (.bin .mod (.var 2) (.var 3))]],
      .ret (.tup [(.bin .fdiv (.var 0) (.var 2)), (.bin .fdiv (.var 1) (.var 2))])]⟩
/-- handings: 0 many, 1 found, 2 one -/
def f_handings : Fn := ⟨1, 3, [.asg (.nm 1) (.con (.int 1)),
      .for_ (.nm 2) .range [(.con (.int 2)), (.bin .add (.var 0) (.con (.int 1)))] [.aug 1 .mul (.var 2)],
      .ret (.var 1)]⟩
/-- chosen: 0 many, 1 few -/
def f_chosen : Fn := ⟨2, 2, [.ret (.bin .fdiv (.bin .fdiv (.call 6 [(.var 0)]) (.call 6 [(.var 1)])) (.call 6 [(.bin .sub (.var 0) (.var 1))]))]⟩
/-- nobody: 0 many -/
def f_nobody : Fn := ⟨1, 1, [.expr (.call 0 [(.call 1 [(.var 0), (.con (.int 0)), (.glob (Str.ofString "MOST_LOTS") (.int 30))]), (.con (.str (Str.ofString "many")))]),
      .ret (.call 9 [(.var 0)])]⟩
/-- nobody_of: 0 many, 1 found, 2 one -/
def f_nobody_of : Fn := ⟨1, 3, [.asg (.nm 1) (.con (.int 1)),
      .for_ (.nm 2) .range [(.con (.int 1)), (.bin .add (.var 0) (.con (.int 1)))] [.asg (.nm 1) (.bin .add (.bin .mul (.var 1) (.var 2)) (.ife (.bin .eq (.bin .mod (.var 2) (.con (.int 2))) (.con (.int 1))) (.un .neg (.con (.int 1))) (.con (.int 1))))],
      .ret (.var 1)]⟩
/-- just: 0 many, 1 right -/
def f_just : Fn := ⟨2, 2, [.expr (.call 0 [(.call 1 [(.var 0), (.con (.int 0)), (.glob (Str.ofString "MOST_LOTS") (.int 30))]), (.con (.str (Str.ofString "many")))]),
      .expr (.call 0 [(.call 1 [(.var 1), (.con (.int 0)), (.var 0)]), (.con (.str (Str.ofString "right")))]),
      .ret (.bin .mul (.call 7 [(.var 0), (.var 1)]) (.call 9 [(.bin .sub (.var 0) (.var 1))]))]⟩
/-- chance_of: 0 many, 1 right -/
def f_chance_of : Fn := ⟨2, 2, [.ret (.call 5 [(.call 10 [(.var 0), (.var 1)]), (.call 6 [(.var 0)])])]⟩
/-- mean_right: 0 many, 1 total, 2 right -/
def f_mean_right : Fn := ⟨1, 3, [.expr (.call 0 [(.call 1 [(.var 0), (.con (.int 0)), (.glob (Str.ofString "MOST_LOTS") (.int 30))]), (.con (.str (Str.ofString "many")))]),
      .asg (.nm 1) (.bi .sum [(.comp (.bin .mul (.bin .mul (.var 2) (.call 7 [(.var 0), (.var 2)])) (.call 9 [(.bin .sub (.var 0) (.var 2))])) (.nm 2) .range [(.bin .add (.var 0) (.con (.int 1)))] [] [2])]),
      .ret (.call 5 [(.var 1), (.call 6 [(.var 0)])])]⟩
/-- right_ones: 0 order, 1 owner, 2 coat -/
def f_right_ones : Fn := ⟨1, 3, [.expr (.call 0 [(.and_ (.bi .isTup [(.var 0)]) (.and_ (.bin .le (.bi .len [(.var 0)]) (.glob (Str.ofString "MOST_LOTS") (.int 30))) (.call 4 [(.var 0), (.bi .len [(.var 0)])]))), (.con (.str (Str.ofString "order")))]),
      .ret (.bi .tuple [(.comp (.var 1) (.tup [(.nm 1), (.nm 2)]) .enum [(.var 0)] [(.bin .eq (.var 1) (.var 2))] [1, 2])])]⟩
/-- chance_at_least: 0 many, 1 right, 2 total, 3 own -/
def f_chance_at_least : Fn := ⟨2, 4, [.expr (.call 0 [(.call 1 [(.var 0), (.con (.int 0)), (.glob (Str.ofString "MOST_LOTS") (.int 30))]), (.con (.str (Str.ofString "many")))]),
      .expr (.call 0 [(.call 1 [(.var 1), (.con (.int 0)), (.bin .add (.var 0) (.con (.int 1)))]), (.con (.str (Str.ofString "right")))]),
      .asg (.nm 2) (.bi .sum [(.comp (.bin .mul (.call 7 [(.var 0), (.var 3)]) (.call 9 [(.bin .sub (.var 0) (.var 3))])) (.nm 3) .range [(.var 1), (.bin .add (.var 0) (.con (.int 1)))] [] [3])]),
      .ret (.call 5 [(.var 2), (.call 6 [(.var 0)])])]⟩
/-- told_chance: 0 many, 1 told, 2 right -/
def f_told_chance : Fn := ⟨3, 3, [.expr (.call 0 [(.call 1 [(.var 0), (.con (.int 0)), (.glob (Str.ofString "MOST_LOTS") (.int 30))]), (.con (.str (Str.ofString "many")))]),
      .expr (.call 0 [(.call 1 [(.var 1), (.con (.int 0)), (.var 0)]), (.con (.str (Str.ofString "told")))]),
      .expr (.call 0 [(.call 1 [(.var 2), (.con (.int 0)), (.var 0)]), (.con (.str (Str.ofString "right")))]),
      .if_ (.bin .lt (.var 2) (.var 1)) [.ret (.tup [(.con (.int 0)), (.con (.int 1))])] [],
      .ret (.call 5 [(.bin .mul (.call 7 [(.bin .sub (.var 0) (.var 1)), (.bin .sub (.var 2) (.var 1))]) (.call 9 [(.bin .sub (.var 0) (.var 2))])), (.call 6 [(.bin .sub (.var 0) (.var 1))])])]⟩
/-- _law_dice: 0 script, 1 spot, 2 own, 3 mixed, 4 cell -/
def f_law_dice : Fn := ⟨2, 5, [.asg (.nm 2) (.ife (.bin .lt (.var 1) (.bi .len [(.var 0)])) (.idx (.var 0) (.var 1)) (.bin .add (.bin .mul (.con (.int 811)) (.var 1)) (.con (.int 37)))),
      .asg (.nm 3) (.bin .add (.con (.int 700001)) (.bin .mul (.con (.int 6947)) (.var 1))),
      .for_ (.nm 4) .seq [(.bin .add (.slice (.var 0) [] [(.con (.int 6))]) (.lst [(.var 2)]))] [.asg (.nm 3) (.bin .mod (.bi .int [(.bin .add (.bin .mul (.var 3) (.con (.int 69621))) (.bin .mod (.bi .int [(.var 4)]) (.con (.int 2147480009))))]) (.con (.int 2147480009)))],
      .ret (.nlst [(.ife (.or_ (.bin .lt (.var 2) (.con (.int 0))) (.bin .ge (.var 2) (.bin .pow (.con (.int 10)) (.con (.int 16))))) (.bi .abs [(.var 2)]) (.con (.int 0))), (.var 3), (.con (.int 0))])]⟩
/-- _law_roll: 0 dice, 1 total, 2 found -/
def f_law_roll : Fn := ⟨2, 3, [.if_ (.bin .gt (.idx (.var 0) (.con (.int 0))) (.con (.int 0))) [.asg (.nm 2) (.bin .mod (.bi .int [(.idx (.var 0) (.con (.int 0)))]) (.var 1)),
      .setix (.var 0) (.con (.int 0)) (.bin .fdiv (.idx (.var 0) (.con (.int 0))) (.var 1)),
      .ret (.var 2)] [],
      .setix (.var 0) (.con (.int 2)) (.bin .add (.idx (.var 0) (.con (.int 2))) (.con (.int 1))),
      .setix (.var 0) (.con (.int 1)) (.bin .mod (.bi .int [(.bin .add (.bin .add (.bin .mul (.idx (.var 0) (.con (.int 1))) (.con (.int 48271))) (.bin .mul (.bin .mul (.idx (.var 0) (.con (.int 2))) (.idx (.var 0) (.con (.int 2)))) (.con (.int 2003)))) (.con (.int 91)))]) (.con (.int 2147480009))),
      .ret (.bin .mod (.bi .int [(.bin .fdiv (.idx (.var 0) (.con (.int 1))) (.con (.int 197)))]) (.var 1))]⟩
/-- _law_pick: 0 dice, 1 things -/
def f_law_pick : Fn := ⟨2, 2, [.ret (.idx (.var 1) (.call 17 [(.var 0), (.bi .len [(.var 1)])]))]⟩
/-- _law_orders: 0 many, 1 found, 2 turn, 3 longer, 4 own, 5 one -/
def f_law_orders : Fn := ⟨1, 6, [.asg (.nm 1) (.lst [(.tup [])]),
      .for_ (.nm 2) .range [(.var 0)] [.asg (.nm 3) (.lst []),
      .for_ (.nm 4) .seq [(.var 1)] [.asg (.nm 3) (.bin .add (.var 3) (.comp (.bin .add (.var 4) (.tup [(.var 5)])) (.nm 5) .range [(.var 0)] [(.bin .notin (.var 5) (.var 4))] [5]))],
      .asg (.nm 1) (.var 3)],
      .ret (.var 1)]⟩
/-- _law_right: 0 order, 1 owner -/
def f_law_right : Fn := ⟨1, 2, [.ret (.bi .len [(.comp (.var 1) (.nm 1) .range [(.bi .len [(.var 0)])] [(.bin .eq (.idx (.var 0) (.var 1)) (.var 1))] [1])])]⟩
/-- _law_all: 0 many, 1 found, 2 one -/
def f_law_all : Fn := ⟨1, 3, [.asg (.nm 1) (.con (.int 1)),
      .for_ (.nm 2) .range [(.var 0)] [.asg (.nm 1) (.bin .mul (.var 1) (.bin .add (.var 2) (.con (.int 1))))],
      .ret (.var 1)]⟩
/-- _law_same: 0 told, 1 part, 2 whole, 3 one, 4 other, 5 turn -/
def f_law_same : Fn := ⟨3, 6, [.par [3, 4] [(.bi .abs [(.idx (.var 0) (.con (.int 0)))]), (.idx (.var 0) (.con (.int 1)))],
      .for_ (.nm 5) .range [(.con (.int 900))] [.if_ (.bin .eq (.var 4) (.con (.int 0))) [.brk] [],
      .par [3, 4] [(.var 4), (.bin .mod (.bi .int [(.var 3)]) (.var 4))]],
      .ret (.and_ (.bin .gt (.idx (.var 0) (.con (.int 1))) (.con (.int 0))) (.and_ (.bin .eq (.var 3) (.con (.int 1))) (.bin .eq (.bin .mul (.idx (.var 0) (.con (.int 0))) (.var 2)) (.bin .mul (.var 1) (.idx (.var 0) (.con (.int 1)))))))]⟩
/-- _law_small_right: 0 many, 1 every, 2 counts, 3 right, 4 told, 5 own, 6 good, 7 one -/
def f_law_small_right : Fn := ⟨1, 8, [.asg (.nm 1) (.call 19 [(.var 0)]),
      .asg (.nm 2) (.comp (.bi .len [(.comp (.var 5) (.nm 5) .seq [(.var 1)] [(.bin .eq (.call 20 [(.var 5)]) (.var 3))] [5])]) (.nm 3) .range [(.bin .add (.var 0) (.con (.int 1)))] [] [3]),
      .if_ (.or_ (.bin .ne (.callk 8 [] [(.var 0)] [0]) (.idx (.var 2) (.con (.int 0)))) (.un .not_ (.call 22 [(.callk 12 [] [(.var 0)] [0]), (.bi .sum [(.comp (.call 20 [(.var 5)]) (.nm 5) .seq [(.var 1)] [] [5])]), (.bi .len [(.var 1)])]))) [.ret (.con (.bool false))] [],
      .for_ (.nm 3) .range [(.bin .add (.var 0) (.con (.int 1)))] [.if_ (.or_ (.bin .ne (.callk 10 [] [(.var 3), (.var 0)] [1, 0]) (.idx (.var 2) (.var 3))) (.un .not_ (.call 22 [(.callk 11 [] [(.var 3), (.var 0)] [1, 0]), (.idx (.var 2) (.var 3)), (.bi .len [(.var 1)])]))) [.ret (.con (.bool false))] [],
      .if_ (.un .not_ (.call 22 [(.callk 14 [] [(.var 3), (.var 0)] [1, 0]), (.bi .sum [(.slice (.var 2) [(.var 3)] [])]), (.bi .len [(.var 1)])])) [.ret (.con (.bool false))] [],
      .for_ (.nm 4) .range [(.bin .add (.var 0) (.con (.int 1)))] [.asg (.nm 5) (.comp (.var 7) (.nm 7) .seq [(.var 1)] [(.bin .eq (.slice (.var 7) [] [(.var 4)]) (.bi .tuple [(.bi .listR [(.var 4)])]))] [7]),
      .asg (.nm 6) (.bi .len [(.comp (.var 7) (.nm 7) .seq [(.var 5)] [(.bin .eq (.call 20 [(.var 7)]) (.var 3))] [7])]),
      .if_ (.un .not_ (.call 22 [(.callk 15 [] [(.var 3), (.var 4), (.var 0)] [2, 1, 0]), (.var 6), (.bi .len [(.var 5)])])) [.ret (.con (.bool false))] []]],
      .ret (.bin .eq (.call 14 [(.var 0), (.bin .add (.var 0) (.con (.int 1)))]) (.tup [(.con (.int 0)), (.con (.int 1))]))]⟩
/-- law: 0 script, 1 many, 2 spot, 3 dice, 4 right, 5 told, 6 left, 7 order, 8 turn, 9 owner, 10 own -/
def f_law : Fn := ⟨1, 11, [.for_ (.nm 1) .range [(.con (.int 6))] [.if_ (.un .not_ (.call 23 [(.var 1)])) [.ret (.con (.bool false))] []],
      .for_ (.nm 2) .range [(.bi .max [(.con (.int 1)), (.bi .min [(.con (.int 8)), (.bi .len [(.var 0)])])])] [.asg (.nm 3) (.call 16 [(.var 0), (.var 2)]),
      .asg (.nm 1) (.bin .add (.con (.int 2)) (.call 17 [(.var 3), (.con (.int 29))])),
      .if_ (.bin .ne (.call 8 [(.var 1)]) (.bin .mul (.bin .sub (.var 1) (.con (.int 1))) (.bin .add (.call 8 [(.bin .sub (.var 1) (.con (.int 1)))]) (.call 8 [(.bin .sub (.var 1) (.con (.int 2)))])))) [.ret (.con (.bool false))] [],
      .if_ (.or_ (.bin .ne (.bi .sum [(.comp (.call 10 [(.var 1), (.var 4)]) (.nm 4) .range [(.bin .add (.var 1) (.con (.int 1)))] [] [4])]) (.call 21 [(.var 1)])) (.bin .ne (.call 12 [(.var 1)]) (.tup [(.con (.int 1)), (.con (.int 1))]))) [.ret (.con (.bool false))] [],
      .asg (.nm 4) (.call 17 [(.var 3), (.var 1)]),
      .if_ (.bin .ne (.bin .mul (.bin .add (.var 4) (.con (.int 1))) (.call 10 [(.var 1), (.bin .add (.var 4) (.con (.int 1)))])) (.bin .mul (.var 1) (.call 10 [(.bin .sub (.var 1) (.con (.int 1))), (.var 4)]))) [.ret (.con (.bool false))] [],
      .if_ (.un .not_ (.call 22 [(.call 11 [(.var 1), (.var 4)]), (.call 10 [(.var 1), (.var 4)]), (.call 21 [(.var 1)])])) [.ret (.con (.bool false))] [],
      .if_ (.un .not_ (.call 22 [(.call 14 [(.var 1), (.var 4)]), (.bi .sum [(.comp (.call 10 [(.var 1), (.var 10)]) (.nm 10) .range [(.var 4), (.bin .add (.var 1) (.con (.int 1)))] [] [10])]), (.call 21 [(.var 1)])])) [.ret (.con (.bool false))] [],
      .asg (.nm 5) (.call 17 [(.var 3), (.bin .add (.var 4) (.con (.int 1)))]),
      .if_ (.or_ (.bin .ne (.call 15 [(.var 1), (.var 5), (.var 4)]) (.call 11 [(.bin .sub (.var 1) (.var 5)), (.bin .sub (.var 4) (.var 5))])) (.bin .ne (.call 15 [(.var 1), (.bin .add (.var 4) (.con (.int 1))), (.var 4)]) (.tup [(.con (.int 0)), (.con (.int 1))]))) [.ret (.con (.bool false))] [],
      .unp [6, 7] [(.nlistR [(.call 17 [(.var 3), (.con (.int 31))])]), (.tup [])],
      .for_ (.nm 8) .range [(.bi .len [(.var 6)])] [.asg (.nm 7) (.bin .add (.var 7) (.tup [(.meth .popAt (.var 6) [(.ife (.bin .eq (.call 17 [(.var 3), (.con (.int 2))]) (.con (.int 0))) (.call 17 [(.var 3), (.bi .len [(.var 6)])]) (.con (.int 0)))])]))],
      .if_ (.bin .ne (.callk 13 [] [(.var 7)] [0]) (.bi .tuple [(.comp (.var 9) (.nm 9) .range [(.bi .len [(.var 7)])] [(.bin .eq (.idx (.var 7) (.var 9)) (.var 9))] [9])])) [.ret (.con (.bool false))] []],
      .asg (.nm 5) (.lst [(.refused (.call 8 [(.con (.int 31))])), (.refused (.call 8 [(.con (.bool true))])), (.refused (.call 10 [(.un .neg (.con (.int 1))), (.con (.int 9))])), (.refused (.call 10 [(.con (.int 5)), (.con (.int 6))])), (.refused (.call 11 [(.con (.int 5)), (.un .neg (.con (.int 1)))])), (.refused (.call 14 [(.con (.int 5)), (.con (.int 7))])), (.refused (.call 12 [(.con .none)])), (.refused (.call 15 [(.con (.int 5)), (.con (.int 6)), (.con (.int 6))])), (.refused (.call 15 [(.con (.int 5)), (.con (.int 5)), (.con (.int 6))])), (.refused (.call 13 [(.lst [(.con (.int 0))])])), (.refused (.call 13 [(.tup [(.con (.int 0)), (.con (.int 0))])])), (.refused (.call 13 [(.bi .tuple [(.bi .listR [(.con (.int 31))])])]))]),
      .if_ (.bin .ne (.var 5) (.lst [(.con (.str (Str.ofString "many"))), (.con (.str (Str.ofString "many"))), (.con (.str (Str.ofString "many"))), (.con (.str (Str.ofString "right"))), (.con (.str (Str.ofString "right"))), (.con (.str (Str.ofString "right"))), (.con (.str (Str.ofString "many"))), (.con (.str (Str.ofString "told"))), (.con (.str (Str.ofString "right"))), (.con (.str (Str.ofString "order"))), (.con (.str (Str.ofString "order"))), (.con (.str (Str.ofString "order")))])) [.ret (.con (.bool false))] [],
      .ret (.and_ (.bin .eq (.call 8 [(.con (.int 0))]) (.con (.int 1))) (.and_ (.bin .eq (.call 8 [(.con (.int 5))]) (.con (.int 44))) (.and_ (.bin .eq (.call 10 [(.con (.int 4)), (.con (.int 2))]) (.con (.int 6))) (.and_ (.bin .eq (.call 11 [(.con (.int 3)), (.con (.int 0))]) (.tup [(.con (.int 1)), (.con (.int 3))])) (.bin .eq (.call 12 [(.con (.int 0))]) (.tup [(.con (.int 0)), (.con (.int 1))]))))))]⟩
def fns : List Fn := [f_demand, f_is_in, f_is_tuple, f_are_in, f_is_order, f_lowest, f_handings, f_chosen, f_nobody, f_nobody_of, f_just, f_chance_of, f_mean_right, f_right_ones, f_chance_at_least, f_told_chance, f_law_dice, f_law_roll, f_law_pick, f_law_orders, f_law_right, f_law_all, f_law_same, f_law_small_right, f_law]
def dfs : List DF := [mkD (top 4) [(Str.ofString "is_good"), (Str.ofString "name")] f_demand false,
  mkD (top 5) [(Str.ofString "value"), (Str.ofString "low"), (Str.ofString "high")] f_is_in false,
  mkD (top 6) [(Str.ofString "value"), (Str.ofString "least"), (Str.ofString "most")] f_is_tuple false,
  mkD (top 7) [(Str.ofString "value"), (Str.ofString "least"), (Str.ofString "most"), (Str.ofString "low"), (Str.ofString "high"), (Str.ofString "one")] f_are_in false,
  mkD (top 8) [(Str.ofString "value"), (Str.ofString "many")] f_is_order false,
  mkD (top 9) [(Str.ofString "part"), (Str.ofString "whole"), (Str.ofString "one"), (Str.ofString "other")] f_lowest false,
  mkD (top 12) [(Str.ofString "many"), (Str.ofString "found"), (Str.ofString "one")] f_handings false,
  mkD (top 13) [(Str.ofString "many"), (Str.ofString "few")] f_chosen false,
  mkD (top 14) [(Str.ofString "many")] f_nobody false,
  mkD (top 15) [(Str.ofString "many"), (Str.ofString "found"), (Str.ofString "one")] f_nobody_of false,
  mkD (top 16) [(Str.ofString "many"), (Str.ofString "right")] f_just false,
  mkD (top 17) [(Str.ofString "many"), (Str.ofString "right")] f_chance_of false,
  mkD (top 18) [(Str.ofString "many"), (Str.ofString "total"), (Str.ofString "right")] f_mean_right false,
  mkD (top 19) [(Str.ofString "order"), (Str.ofString "owner"), (Str.ofString "coat")] f_right_ones false,
  mkD (top 20) [(Str.ofString "many"), (Str.ofString "right"), (Str.ofString "total"), (Str.ofString "own")] f_chance_at_least false,
  mkD (top 21) [(Str.ofString "many"), (Str.ofString "told"), (Str.ofString "right")] f_told_chance false,
  mkD (top 23) [(Str.ofString "script"), (Str.ofString "spot"), (Str.ofString "own"), (Str.ofString "mixed"), (Str.ofString "cell")] f_law_dice false,
  mkD (top 24) [(Str.ofString "dice"), (Str.ofString "total"), (Str.ofString "found")] f_law_roll false,
  mkD (top 25) [(Str.ofString "dice"), (Str.ofString "things")] f_law_pick false,
  mkD (top 27) [(Str.ofString "many"), (Str.ofString "found"), (Str.ofString "turn"), (Str.ofString "longer"), (Str.ofString "own"), (Str.ofString "one")] f_law_orders false,
  mkD (top 28) [(Str.ofString "order"), (Str.ofString "owner")] f_law_right false,
  mkD (top 29) [(Str.ofString "many"), (Str.ofString "found"), (Str.ofString "one")] f_law_all false,
  mkD (top 30) [(Str.ofString "told"), (Str.ofString "part"), (Str.ofString "whole"), (Str.ofString "one"), (Str.ofString "other"), (Str.ofString "turn")] f_law_same false,
  mkD (top 31) [(Str.ofString "many"), (Str.ofString "every"), (Str.ofString "counts"), (Str.ofString "right"), (Str.ofString "told"), (Str.ofString "own"), (Str.ofString "good"), (Str.ofString "one")] f_law_small_right false,
  mkD (top 32) [(Str.ofString "script"), (Str.ofString "many"), (Str.ofString "spot"), (Str.ofString "dice"), (Str.ofString "right"), (Str.ofString "told"), (Str.ofString "left"), (Str.ofString "order"), (Str.ofString "turn"), (Str.ofString "owner"), (Str.ofString "own")] f_law true]
def T : Tb := ⟨[(Str.ofString "demand"), (Str.ofString "is_in"), (Str.ofString "is_tuple"), (Str.ofString "are_in"), (Str.ofString "is_order"), (Str.ofString "lowest"), (Str.ofString "handings"), (Str.ofString "chosen"), (Str.ofString "nobody"), (Str.ofString "nobody_of"), (Str.ofString "just"), (Str.ofString "chance_of"), (Str.ofString "mean_right"), (Str.ofString "right_ones"), (Str.ofString "chance_at_least"), (Str.ofString "told_chance"), (Str.ofString "_law_dice"), (Str.ofString "_law_roll"), (Str.ofString "_law_pick"), (Str.ofString "_law_orders"), (Str.ofString "_law_right"), (Str.ofString "_law_all"), (Str.ofString "_law_same"), (Str.ofString "_law_small_right"), (Str.ofString "law")],
  [(8, 0, [(Str.ofString "many")], [0]), (12, 0, [(Str.ofString "many")], [0]), (10, 0, [(Str.ofString "right"), (Str.ofString "many")], [1, 0]), (11, 0, [(Str.ofString "right"), (Str.ofString "many")], [1, 0]), (14, 0, [(Str.ofString "right"), (Str.ofString "many")], [1, 0]), (15, 0, [(Str.ofString "right"), (Str.ofString "told"), (Str.ofString "many")], [2, 1, 0]), (13, 0, [(Str.ofString "order")], [0])],
  [((Str.ofString "MOST_LOTS"), .int 30)], [(Str.ofString "abs"), (Str.ofString "all"), (Str.ofString "bool"), (Str.ofString "enumerate"), (Str.ofString "int"), (Str.ofString "isinstance"), (Str.ofString "len"), (Str.ofString "list"), (Str.ofString "max"), (Str.ofString "min"), (Str.ofString "range"), (Str.ofString "set"), (Str.ofString "sum"), (Str.ofString "tuple")], (Str.ofString "_law_refused"), [(0, (Str.ofString "BadArgument"))]⟩
def L : LD := ⟨dfs, T, rfD, (Str.ofString "/claim/cut.py"), (Str.ofString "BadArgument"), [((Str.ofString "BadArgument"), (Str.ofString "name"))], [((Str.ofString "MOST_LOTS"), 30)], 24⟩
theorem kw0 : ∀ (kV doc pm : Value) (an : Option Addr) (cdv ct : Value) (us ws : List Value), us.length = 0 → ws.length = 1 →
  bindArgs (PySem.W.fnOf (mkD (top 14) [(Str.ofString "many")] f_nobody false).nm (mkD (top 14) [(Str.ofString "many")] f_nobody false).nm (mkD (top 14) [(Str.ofString "many")] f_nobody false).pr (mkD (top 14) [(Str.ofString "many")] f_nobody false).body (mkD (top 14) [(Str.ofString "many")] f_nobody false).sc .none kV doc pm an cdv ct) ⟨us, ([(Str.ofString "many")] : List Str).zip ws⟩ = pure ((mkD (top 14) [(Str.ofString "many")] f_nobody false).ps.zip (permL (us ++ ws) [0])) :=
  fun _ _ _ _ _ _ us ws h1 h2 => match us, ws, h1, h2 with
    | [], [_], _, _ => by kernel_rfl
theorem kw1 : ∀ (kV doc pm : Value) (an : Option Addr) (cdv ct : Value) (us ws : List Value), us.length = 0 → ws.length = 1 →
  bindArgs (PySem.W.fnOf (mkD (top 18) [(Str.ofString "many"), (Str.ofString "total"), (Str.ofString "right")] f_mean_right false).nm (mkD (top 18) [(Str.ofString "many"), (Str.ofString "total"), (Str.ofString "right")] f_mean_right false).nm (mkD (top 18) [(Str.ofString "many"), (Str.ofString "total"), (Str.ofString "right")] f_mean_right false).pr (mkD (top 18) [(Str.ofString "many"), (Str.ofString "total"), (Str.ofString "right")] f_mean_right false).body (mkD (top 18) [(Str.ofString "many"), (Str.ofString "total"), (Str.ofString "right")] f_mean_right false).sc .none kV doc pm an cdv ct) ⟨us, ([(Str.ofString "many")] : List Str).zip ws⟩ = pure ((mkD (top 18) [(Str.ofString "many"), (Str.ofString "total"), (Str.ofString "right")] f_mean_right false).ps.zip (permL (us ++ ws) [0])) :=
  fun _ _ _ _ _ _ us ws h1 h2 => match us, ws, h1, h2 with
    | [], [_], _, _ => by kernel_rfl
theorem kw2 : ∀ (kV doc pm : Value) (an : Option Addr) (cdv ct : Value) (us ws : List Value), us.length = 0 → ws.length = 2 →
  bindArgs (PySem.W.fnOf (mkD (top 16) [(Str.ofString "many"), (Str.ofString "right")] f_just false).nm (mkD (top 16) [(Str.ofString "many"), (Str.ofString "right")] f_just false).nm (mkD (top 16) [(Str.ofString "many"), (Str.ofString "right")] f_just false).pr (mkD (top 16) [(Str.ofString "many"), (Str.ofString "right")] f_just false).body (mkD (top 16) [(Str.ofString "many"), (Str.ofString "right")] f_just false).sc .none kV doc pm an cdv ct) ⟨us, ([(Str.ofString "right"), (Str.ofString "many")] : List Str).zip ws⟩ = pure ((mkD (top 16) [(Str.ofString "many"), (Str.ofString "right")] f_just false).ps.zip (permL (us ++ ws) [1, 0])) :=
  fun _ _ _ _ _ _ us ws h1 h2 => match us, ws, h1, h2 with
    | [], [_, _], _, _ => by kernel_rfl
theorem kw3 : ∀ (kV doc pm : Value) (an : Option Addr) (cdv ct : Value) (us ws : List Value), us.length = 0 → ws.length = 2 →
  bindArgs (PySem.W.fnOf (mkD (top 17) [(Str.ofString "many"), (Str.ofString "right")] f_chance_of false).nm (mkD (top 17) [(Str.ofString "many"), (Str.ofString "right")] f_chance_of false).nm (mkD (top 17) [(Str.ofString "many"), (Str.ofString "right")] f_chance_of false).pr (mkD (top 17) [(Str.ofString "many"), (Str.ofString "right")] f_chance_of false).body (mkD (top 17) [(Str.ofString "many"), (Str.ofString "right")] f_chance_of false).sc .none kV doc pm an cdv ct) ⟨us, ([(Str.ofString "right"), (Str.ofString "many")] : List Str).zip ws⟩ = pure ((mkD (top 17) [(Str.ofString "many"), (Str.ofString "right")] f_chance_of false).ps.zip (permL (us ++ ws) [1, 0])) :=
  fun _ _ _ _ _ _ us ws h1 h2 => match us, ws, h1, h2 with
    | [], [_, _], _, _ => by kernel_rfl
theorem kw4 : ∀ (kV doc pm : Value) (an : Option Addr) (cdv ct : Value) (us ws : List Value), us.length = 0 → ws.length = 2 →
  bindArgs (PySem.W.fnOf (mkD (top 20) [(Str.ofString "many"), (Str.ofString "right"), (Str.ofString "total"), (Str.ofString "own")] f_chance_at_least false).nm (mkD (top 20) [(Str.ofString "many"), (Str.ofString "right"), (Str.ofString "total"), (Str.ofString "own")] f_chance_at_least false).nm (mkD (top 20) [(Str.ofString "many"), (Str.ofString "right"), (Str.ofString "total"), (Str.ofString "own")] f_chance_at_least false).pr (mkD (top 20) [(Str.ofString "many"), (Str.ofString "right"), (Str.ofString "total"), (Str.ofString "own")] f_chance_at_least false).body (mkD (top 20) [(Str.ofString "many"), (Str.ofString "right"), (Str.ofString "total"), (Str.ofString "own")] f_chance_at_least false).sc .none kV doc pm an cdv ct) ⟨us, ([(Str.ofString "right"), (Str.ofString "many")] : List Str).zip ws⟩ = pure ((mkD (top 20) [(Str.ofString "many"), (Str.ofString "right"), (Str.ofString "total"), (Str.ofString "own")] f_chance_at_least false).ps.zip (permL (us ++ ws) [1, 0])) :=
  fun _ _ _ _ _ _ us ws h1 h2 => match us, ws, h1, h2 with
    | [], [_, _], _, _ => by kernel_rfl
theorem kw5 : ∀ (kV doc pm : Value) (an : Option Addr) (cdv ct : Value) (us ws : List Value), us.length = 0 → ws.length = 3 →
  bindArgs (PySem.W.fnOf (mkD (top 21) [(Str.ofString "many"), (Str.ofString "told"), (Str.ofString "right")] f_told_chance false).nm (mkD (top 21) [(Str.ofString "many"), (Str.ofString "told"), (Str.ofString "right")] f_told_chance false).nm (mkD (top 21) [(Str.ofString "many"), (Str.ofString "told"), (Str.ofString "right")] f_told_chance false).pr (mkD (top 21) [(Str.ofString "many"), (Str.ofString "told"), (Str.ofString "right")] f_told_chance false).body (mkD (top 21) [(Str.ofString "many"), (Str.ofString "told"), (Str.ofString "right")] f_told_chance false).sc .none kV doc pm an cdv ct) ⟨us, ([(Str.ofString "right"), (Str.ofString "told"), (Str.ofString "many")] : List Str).zip ws⟩ = pure ((mkD (top 21) [(Str.ofString "many"), (Str.ofString "told"), (Str.ofString "right")] f_told_chance false).ps.zip (permL (us ++ ws) [2, 1, 0])) :=
  fun _ _ _ _ _ _ us ws h1 h2 => match us, ws, h1, h2 with
    | [], [_, _, _], _, _ => by kernel_rfl
theorem kw6 : ∀ (kV doc pm : Value) (an : Option Addr) (cdv ct : Value) (us ws : List Value), us.length = 0 → ws.length = 1 →
  bindArgs (PySem.W.fnOf (mkD (top 19) [(Str.ofString "order"), (Str.ofString "owner"), (Str.ofString "coat")] f_right_ones false).nm (mkD (top 19) [(Str.ofString "order"), (Str.ofString "owner"), (Str.ofString "coat")] f_right_ones false).nm (mkD (top 19) [(Str.ofString "order"), (Str.ofString "owner"), (Str.ofString "coat")] f_right_ones false).pr (mkD (top 19) [(Str.ofString "order"), (Str.ofString "owner"), (Str.ofString "coat")] f_right_ones false).body (mkD (top 19) [(Str.ofString "order"), (Str.ofString "owner"), (Str.ofString "coat")] f_right_ones false).sc .none kV doc pm an cdv ct) ⟨us, ([(Str.ofString "order")] : List Str).zip ws⟩ = pure ((mkD (top 19) [(Str.ofString "order"), (Str.ofString "owner"), (Str.ofString "coat")] f_right_ones false).ps.zip (permL (us ++ ws) [0])) :=
  fun _ _ _ _ _ _ us ws h1 h2 => match us, ws, h1, h2 with
    | [], [_], _, _ => by kernel_rfl
theorem kwt : KwT L := by
  intro q hq
  have hq : q ∈ T.kws := hq
  simp only [T, List.mem_cons, List.not_mem_nil, or_false] at hq
  rcases hq with rfl | rfl | rfl | rfl | rfl | rfl | rfl
  · exact ⟨_, rfl, kw0⟩
  · exact ⟨_, rfl, kw1⟩
  · exact ⟨_, rfl, kw2⟩
  · exact ⟨_, rfl, kw3⟩
  · exact ⟨_, rfl, kw4⟩
  · exact ⟨_, rfl, kw5⟩
  · exact ⟨_, rfl, kw6⟩
def loose : List PySem.Str := [(Str.ofString "CoatError"), (Str.ofString "BadArgument"), (Str.ofString "demand"), (Str.ofString "is_in"), (Str.ofString "is_tuple"), (Str.ofString "are_in"), (Str.ofString "is_order"), (Str.ofString "lowest"), (Str.ofString "MOST_LOTS"), (Str.ofString "handings"), (Str.ofString "chosen"), (Str.ofString "nobody"), (Str.ofString "nobody_of"), (Str.ofString "just"), (Str.ofString "chance_of"), (Str.ofString "mean_right"), (Str.ofString "right_ones"), (Str.ofString "chance_at_least"), (Str.ofString "told_chance"), (Str.ofString "_law_dice"), (Str.ofString "_law_roll"), (Str.ofString "_law_pick"), (Str.ofString "_law_refused"), (Str.ofString "_law_orders"), (Str.ofString "_law_right"), (Str.ofString "_law_all"), (Str.ofString "_law_same"), (Str.ofString "_law_small_right")]
def lawIx : Nat := 32


theorem okL : L.ok LL.prog = true := by kernel_rfl
def ob (s : PySem.W.SharedT) : He.AlX := seenE L (HandSHeadRun.getT s)
theorem ob_eq (s : PySem.W.SharedT) : ob s = (hookE L).obs s.abs := seenE_eq (HandSHeadRun.getT_eq s)
end
end Ev
end

section
set_option Elab.async false
set_option linter.all false
set_option maxRecDepth 100000
set_option autoImplicit false
set_option maxHeartbeats 0
namespace Ev
open PySem
/-! what the defs of the program come to, at whole numbers -/
def fac : Nat → Int
  | 0 => 1
  | n + 1 => fac n * (n + 1)
def nob : Nat → Int
  | 0 => 1
  | n + 1 => nob n * (n + 1) + (if (n + 1) % 2 = 1 then -1 else 1)
theorem fn_at {k f : Nat} {vs : List Val} {h : Hq} {fn : Fn} (e : fns[f]? = some fn) (hl : vs.length = fn.pars) : callF fns (k + 1) f vs h = endF h (evSs (callF fns k) fn.body (startE fn.names vs) h) := by
  simp only [callF, e, hl, if_true]
theorem handings_t {k : Nat} {h : Hq} : ∀ n : Nat, n < 32 → callF fns (k + 1) 6 [.d (.int (n : Nat))] h = some (.val (.d (.int (fac n))), h.take h.length)
  | 0, _ => by kernel_rfl
  | 1, _ => by kernel_rfl
  | 2, _ => by kernel_rfl
  | 3, _ => by kernel_rfl
  | 4, _ => by kernel_rfl
  | 5, _ => by kernel_rfl
  | 6, _ => by kernel_rfl
  | 7, _ => by kernel_rfl
  | 8, _ => by kernel_rfl
  | 9, _ => by kernel_rfl
  | 10, _ => by kernel_rfl
  | 11, _ => by kernel_rfl
  | 12, _ => by kernel_rfl
  | 13, _ => by kernel_rfl
  | 14, _ => by kernel_rfl
  | 15, _ => by kernel_rfl
  | 16, _ => by kernel_rfl
  | 17, _ => by kernel_rfl
  | 18, _ => by kernel_rfl
  | 19, _ => by kernel_rfl
  | 20, _ => by kernel_rfl
  | 21, _ => by kernel_rfl
  | 22, _ => by kernel_rfl
  | 23, _ => by kernel_rfl
  | 24, _ => by kernel_rfl
  | 25, _ => by kernel_rfl
  | 26, _ => by kernel_rfl
  | 27, _ => by kernel_rfl
  | 28, _ => by kernel_rfl
  | 29, _ => by kernel_rfl
  | 30, _ => by kernel_rfl
  | 31, _ => by kernel_rfl
  | n + 32, h => by omega
theorem handings_eq {k n : Nat} {h : Hq} (hn : n < 32) : callF fns (k + 1) 6 [.d (.int (n : Nat))] h = some (.val (.d (.int (fac n))), h) := by
  rw [handings_t n hn, List.take_length]
theorem nobof_t {k : Nat} {h : Hq} : ∀ n : Nat, n < 32 → callF fns (k + 1) 9 [.d (.int (n : Nat))] h = some (.val (.d (.int (nob n))), h.take h.length)
  | 0, _ => by kernel_rfl
  | 1, _ => by kernel_rfl
  | 2, _ => by kernel_rfl
  | 3, _ => by kernel_rfl
  | 4, _ => by kernel_rfl
  | 5, _ => by kernel_rfl
  | 6, _ => by kernel_rfl
  | 7, _ => by kernel_rfl
  | 8, _ => by kernel_rfl
  | 9, _ => by kernel_rfl
  | 10, _ => by kernel_rfl
  | 11, _ => by kernel_rfl
  | 12, _ => by kernel_rfl
  | 13, _ => by kernel_rfl
  | 14, _ => by kernel_rfl
  | 15, _ => by kernel_rfl
  | 16, _ => by kernel_rfl
  | 17, _ => by kernel_rfl
  | 18, _ => by kernel_rfl
  | 19, _ => by kernel_rfl
  | 20, _ => by kernel_rfl
  | 21, _ => by kernel_rfl
  | 22, _ => by kernel_rfl
  | 23, _ => by kernel_rfl
  | 24, _ => by kernel_rfl
  | 25, _ => by kernel_rfl
  | 26, _ => by kernel_rfl
  | 27, _ => by kernel_rfl
  | 28, _ => by kernel_rfl
  | 29, _ => by kernel_rfl
  | 30, _ => by kernel_rfl
  | 31, _ => by kernel_rfl
  | n + 32, h => by omega
theorem nobof_eq {k n : Nat} {h : Hq} (hn : n < 32) : callF fns (k + 1) 9 [.d (.int (n : Nat))] h = some (.val (.d (.int (nob n))), h) := by
  rw [nobof_t n hn, List.take_length]
theorem lawall_t {k : Nat} {h : Hq} : ∀ n : Nat, n < 32 → callF fns (k + 1) 21 [.d (.int (n : Nat))] h = some (.val (.d (.int (fac n))), h.take h.length)
  | 0, _ => by kernel_rfl
  | 1, _ => by kernel_rfl
  | 2, _ => by kernel_rfl
  | 3, _ => by kernel_rfl
  | 4, _ => by kernel_rfl
  | 5, _ => by kernel_rfl
  | 6, _ => by kernel_rfl
  | 7, _ => by kernel_rfl
  | 8, _ => by kernel_rfl
  | 9, _ => by kernel_rfl
  | 10, _ => by kernel_rfl
  | 11, _ => by kernel_rfl
  | 12, _ => by kernel_rfl
  | 13, _ => by kernel_rfl
  | 14, _ => by kernel_rfl
  | 15, _ => by kernel_rfl
  | 16, _ => by kernel_rfl
  | 17, _ => by kernel_rfl
  | 18, _ => by kernel_rfl
  | 19, _ => by kernel_rfl
  | 20, _ => by kernel_rfl
  | 21, _ => by kernel_rfl
  | 22, _ => by kernel_rfl
  | 23, _ => by kernel_rfl
  | 24, _ => by kernel_rfl
  | 25, _ => by kernel_rfl
  | 26, _ => by kernel_rfl
  | 27, _ => by kernel_rfl
  | 28, _ => by kernel_rfl
  | 29, _ => by kernel_rfl
  | 30, _ => by kernel_rfl
  | 31, _ => by kernel_rfl
  | n + 32, h => by omega
theorem lawall_eq {k n : Nat} {h : Hq} (hn : n < 32) : callF fns (k + 1) 21 [.d (.int (n : Nat))] h = some (.val (.d (.int (fac n))), h) := by
  rw [lawall_t n hn, List.take_length]
theorem g0 : fns[0]? = some f_demand := by kernel_rfl
theorem g1 : fns[1]? = some f_is_in := by kernel_rfl
theorem g5 : fns[5]? = some f_lowest := by kernel_rfl
theorem g7 : fns[7]? = some f_chosen := by kernel_rfl
theorem g8 : fns[8]? = some f_nobody := by kernel_rfl
theorem g10 : fns[10]? = some f_just := by kernel_rfl
theorem g11 : fns[11]? = some f_chance_of := by kernel_rfl
theorem g12 : fns[12]? = some f_mean_right := by kernel_rfl
theorem g14 : fns[14]? = some f_chance_at_least := by kernel_rfl
theorem g15 : fns[15]? = some f_told_chance := by kernel_rfl
theorem g22 : fns[22]? = some f_law_same := by kernel_rfl
theorem demand_t {k : Nat} {x : D} {h : Hq} : callF fns (k + 1) 0 [.d (.bool true), .d x] h = some (.val (.d .none), h) := by
  rw [fn_at g0 (by rfl)]
  exact end_n
theorem isin_t {k : Nat} {v lo hi : Int} {h : Hq} (h1 : lo ≤ v) (h2 : v ≤ hi) : callF fns (k + 1) 1 [.d (.int v), .d (.int lo), .d (.int hi)] h = some (.val (.d (.bool true)), h) := by
  rw [fn_at g1 (by rfl)]
  have e : evSs (callF fns k) f_is_in.body (startE f_is_in.names [.d (.int v), .d (.int lo), .d (.int hi)]) h = some (.ret (.d (.bool true)), h) := by
    show evSs (callF fns k) f_is_in.body [some (.d (.int v)), some (.d (.int lo)), some (.d (.int hi))] h = _
    have b1 : semB .isInt [.int v] = some (.bool true) := rfl
    have b2 : semB .isBool [.int v] = some (.bool false) := rfl
    have b3 : sem1 .not_ (.bool false) = some (.bool true) := rfl
    simp only [f_is_in, evSs, evS, evE, evEs, consA, bnd, bndA, sB, List.getElem?_cons_zero, List.getElem?_cons_succ, vw_d, b1, b2, b3, o_ar, s_le, decide_eq_true h1, decide_eq_true h2]
  rw [e]
  exact end_d
/-- the argument is looked at -/
theorem look_t {k : Nat} {v lo hi : Int} {x : D} {ev el eh : E} {env : Env} {h : Hq} (e1 : evE (callF fns (k + 1)) ev env h = some (.val (.d (.int v)), h)) (e2 : evE (callF fns (k + 1)) el env h = some (.val (.d (.int lo)), h)) (e3 : evE (callF fns (k + 1)) eh env h = some (.val (.d (.int hi)), h)) (h1 : lo ≤ v) (h2 : v ≤ hi) :
    evS (callF fns (k + 1)) (.expr (.call 0 [(.call 1 [ev, el, eh]), (.con x)])) env h = some (.nx env, h) := by
  simp only [evS, evE, evEs, consA, bndA, sB, e1, e2, e3, isin_t h1 h2, demand_t]
def ch (m f : Nat) : Int := fac m / fac f / fac (m - f)
theorem fac_pos : ∀ n : Nat, 0 < fac n
  | 0 => by decide
  | n + 1 => by
    show 0 < fac n * (n + 1)
    exact Int.mul_pos (fac_pos n) (by omega)
theorem fac_small : ∀ n : Nat, n < 32 → fac n < 2 ^ 4000 := by decide +kernel
theorem chosen_b {F : CallS} {m f a b c : Int} {h : Hq} (e1 : F 6 [.d (.int m)] h = some (.val (.d (.int a)), h)) (e2 : F 6 [.d (.int f)] h = some (.val (.d (.int b)), h)) (e3 : F 6 [.d (.int (m - f))] h = some (.val (.d (.int c)), h)) (d1 : divOk b = true) (d2 : divOk c = true) :
    evSs F f_chosen.body [some (.d (.int m)), some (.d (.int f))] h = some (.ret (.d (.int (a / b / c))), h) := by
  simp only [f_chosen, evSs, evS, evE, evEs, consA, bnd, bndA, sB, List.getElem?_cons_zero, List.getElem?_cons_succ, o_ar, s_sub, e1, e2, e3, s_fdiv d1, s_fdiv d2]
theorem nat_sub {m f : Nat} (h : f ≤ m) : ((m : Int) - (f : Int)) = ((m - f : Nat) : Int) := by omega
theorem chosen_eq {k m f : Nat} {h : Hq} (h1 : f ≤ m) (h2 : m < 32) : callF fns (k + 1 + 1) 7 [.d (.int (m : Nat)), .d (.int (f : Nat))] h = some (.val (.d (.int (ch m f))), h) := by
  rw [fn_at g7 (by rfl)]
  have d1 := div_small (fac_pos f) (fac_small f (by omega))
  have d2 := div_small (fac_pos (m - f)) (fac_small (m - f) (by omega))
  have e := chosen_b (F := callF fns (k + 1)) (h := h) (handings_eq h2) (handings_eq (show f < 32 by omega)) (by rw [nat_sub h1]; exact handings_eq (show m - f < 32 by omega)) d1 d2
  rw [show startE f_chosen.names [Val.d (.int (m : Nat)), .d (.int (f : Nat))] = [some (.d (.int (m : Nat))), some (.d (.int (f : Nat)))] from rfl, e]
  exact end_d
theorem nobody_b {k : Nat} {n v : Int} {h : Hq} (h1 : 0 ≤ n) (h2 : n ≤ 30) (e : callF fns (k + 1) 9 [.d (.int n)] h = some (.val (.d (.int v)), h)) : evSs (callF fns (k + 1)) f_nobody.body [some (.d (.int n))] h = some (.ret (.d (.int v)), h) := by
  unfold f_nobody
  rw [evSs, look_t (v := n) (lo := 0) (hi := 30) (by simp only [evE, List.getElem?_cons_zero]) (by simp only [evE]) (by simp only [evE]) h1 h2]
  simp only [evSs, evS, evE, evEs, consA, bndA, sB, List.getElem?_cons_zero, e]
theorem nobody_eq {k n : Nat} {h : Hq} (hn : n < 31) : callF fns (k + 1 + 1) 8 [.d (.int (n : Nat))] h = some (.val (.d (.int (nob n))), h) := by
  rw [fn_at g8 (by rfl)]
  have e := nobody_b (k := k) (n := (n : Nat)) (h := h) (by omega) (by omega) (nobof_eq (show n < 32 by omega))
  rw [show startE f_nobody.names [Val.d (.int (n : Nat))] = [some (.d (.int (n : Nat)))] from rfl, e]
  exact end_d
def jst (m r : Nat) : Int := ch m r * nob (m - r)
theorem ch_small : ∀ m : Nat, m < 32 → ∀ f : Nat, f ≤ m → (ch m f < 2 ^ 64 ∧ -(2 ^ 64) < ch m f) := by decide +kernel
theorem just_b {k : Nat} {m r a b : Int} {h : Hq} (h1 : 0 ≤ m) (h2 : m ≤ 30) (h3 : 0 ≤ r) (h4 : r ≤ m) (e1 : callF fns (k + 1) 7 [.d (.int m), .d (.int r)] h = some (.val (.d (.int a)), h)) (e2 : callF fns (k + 1) 9 [.d (.int (m - r))] h = some (.val (.d (.int b)), h)) (s1 : a < 2 ^ 64) (s2 : -(2 ^ 64) < a) :
    evSs (callF fns (k + 1)) f_just.body [some (.d (.int m)), some (.d (.int r))] h = some (.ret (.d (.int (a * b))), h) := by
  unfold f_just
  rw [evSs, look_t (v := m) (lo := 0) (hi := 30) (by simp only [evE, List.getElem?_cons_zero]) (by simp only [evE]) (by simp only [evE]) h1 h2]
  simp only
  rw [evSs, look_t (v := r) (lo := 0) (hi := m) (by simp only [evE, List.getElem?_cons_zero, List.getElem?_cons_succ]) (by simp only [evE]) (by simp only [evE, List.getElem?_cons_zero]) h3 h4]
  simp only [evSs, evS, evE, evEs, consA, bnd, bndA, sB, List.getElem?_cons_zero, List.getElem?_cons_succ, o_ar, s_sub, e1, e2, s_mul (mul_small' s2 s1)]
theorem just_eq {k m r : Nat} {h : Hq} (h1 : r ≤ m) (h2 : m < 31) : callF fns (k + 1 + 1 + 1) 10 [.d (.int (m : Nat)), .d (.int (r : Nat))] h = some (.val (.d (.int (jst m r))), h) := by
  rw [fn_at g10 (by rfl)]
  obtain ⟨s1, s2⟩ := ch_small m (by omega) r h1
  have e := just_b (k := k + 1) (m := (m : Nat)) (r := (r : Nat)) (h := h) (by omega) (by omega) (by omega) (by omega) (chosen_eq h1 (by omega)) (by rw [nat_sub h1]; exact nobof_eq (show m - r < 32 by omega)) s1 s2
  rw [show startE f_just.names [Val.d (.int (m : Nat)), .d (.int (r : Nat))] = [some (.d (.int (m : Nat))), some (.d (.int (r : Nat)))] from rfl, e]
  exact end_d
/-! fractions -/
/-- Euclid, by so many turns -/
def eu : Nat → Int → Int → Option Int
  | 0, _, _ => none
  | n + 1, a, b => if b = 0 then some a else eu n b (a % b)
theorem eu_loop {F : CallS} {p q : Option Val} {h : Hq} {g : Int} : ∀ (n r : Nat) (a b : Int), 0 ≤ b → eu n a b = some g →
    loopW (evE F (.bin .ne (.var 3) (.con (.int 0)))) (evSs F [.par [2, 3] [(.var 3), (.bin .mod (.var 2) (.var 3))]]) (n + r) [p, q, some (.d (.int a)), some (.d (.int b))] h = some (.nx [p, q, some (.d (.int g)), some (.d (.int 0))], h)
  | 0, r, a, b, hb, e => by cases e
  | n + 1, r, a, b, hb, e => by
    rw [Nat.add_right_comm]
    by_cases h0 : b = 0
    · subst h0
      simp only [eu, if_true, Option.some.injEq] at e
      subst e
      have hd : sem2 .ne (.int 0) (.int 0) = some (.bool false) := by rw [s_ne]; rfl
      simp only [loopW, evE, bnd, List.getElem?_cons_zero, List.getElem?_cons_succ, o_ar, hd]
    · simp only [eu, if_neg h0] at e
      have hd : sem2 .ne (.int b) (.int 0) = some (.bool true) := by rw [s_ne, decide_eq_false h0]; rfl
      have hp : 0 < b := by omega
      have ih := eu_loop (F := F) (p := p) (q := q) (h := h) n r b (a % b) (Int.emod_nonneg _ h0) e
      simp only [loopW, evE, evSs, evS, evEs, consA, bnd, sBA, List.getElem?_cons_zero, List.getElem?_cons_succ, o_ar, hd, s_mod hp, setAll, List.set_cons_succ, List.set_cons_zero]
      exact ih
theorem lowest_b {F : CallS} {p w g : Int} {h : Hq} {e2 e3 : Option Val} (hw : 0 ≤ w) (e : eu 400 (if p < 0 then -p else p) w = some g) (d : divOk g = true) :
    evSs F f_lowest.body [some (.d (.int p)), some (.d (.int w)), e2, e3] h = some (.ret (.d (.tuple [.int (p / g), .int (w / g)])), h) := by
  have el := eu_loop (F := F) (p := some (.d (.int p))) (q := some (.d (.int w))) (h := h) 400 999600 _ w hw e
  have hl : ([PyData.int (p / g), PyData.int (w / g)] : List D).length ≤ line := by unfold line; simp
  unfold f_lowest
  rw [evSs, evS]
  simp only [evE, evEs, consA, bndA, sBA, List.getElem?_cons_zero, List.getElem?_cons_succ, vw_d, b_abs, setAll, List.set_cons_succ, List.set_cons_zero]
  rw [evSs, evS]
  rw [show loopW (evE F (.bin .ne (.var 3) (.con (.int 0)))) (evSs F [.par [2, 3] [(.var 3), (.bin .mod (.var 2) (.var 3))]]) WB [some (.d (.int p)), some (.d (.int w)), some (.d (.int (if p < 0 then -p else p))), some (.d (.int w))] h = _ from el]
  simp only [evSs, evS, evE, evEs, consA, bnd, bndA, sB, List.getElem?_cons_zero, List.getElem?_cons_succ, o_ar, s_fdiv d, pureL, if_pos hl]
/-- a fraction in lowest terms -/
def lowV (p w : Int) : Option (Int × Int) := match eu 400 (if p < 0 then -p else p) w with
  | some g => if 0 < g ∧ g < 2 ^ 4000 then some (p / g, w / g) else none
  | none => none
theorem lowest_eq {k : Nat} {p w x y : Int} {h : Hq} (hw : 0 ≤ w) (e : lowV p w = some (x, y)) : callF fns (k + 1) 5 [.d (.int p), .d (.int w)] h = some (.val (.d (.tuple [.int x, .int y])), h) := by
  unfold lowV at e
  split at e
  · rename_i g hg
    split at e
    · rename_i hp
      cases e
      rw [fn_at g5 (by rfl)]
      rw [show startE f_lowest.names [Val.d (.int p), .d (.int w)] = [some (.d (.int p)), some (.d (.int w)), none, none] from rfl, lowest_b hw hg (div_small hp.1 hp.2)]
      exact end_d
    · cases e
  · cases e
theorem same_loop {F : CallS} {t p w : Option Val} {h : Hq} {g : Int} {l : Nat} : ∀ (n i : Nat) (items : List D) (a b : Int) (c : Option Val), 0 ≤ b → n ≤ items.length → eu n a b = some g → ∃ c',
    loopF .range none l (.nm 5) (evSs F [.if_ (.bin .eq (.var 4) (.con (.int 0))) [.brk] [], .par [3, 4] [(.var 4), (.bin .mod (.bi .int [(.var 3)]) (.var 4))]]) i items [t, p, w, some (.d (.int a)), some (.d (.int b)), c] h = some (.nx [t, p, w, some (.d (.int g)), some (.d (.int 0)), c'], h)
  | 0, i, items, a, b, c, hb, hn, e => by cases e
  | n + 1, i, [], a, b, c, hb, hn, e => by simp at hn
  | n + 1, i, x :: r, a, b, c, hb, hn, e => by
    by_cases h0 : b = 0
    · subst h0
      simp only [eu, if_true, Option.some.injEq] at e
      subst e
      have hd : sem2 .eq (.int 0) (.int 0) = some (.bool true) := by rw [s_eq]; rfl
      exact ⟨some (.d x), by simp only [loopF, itemAt, asgT, evSs, evS, evE, bnd, sB, List.getElem?_cons_zero, List.getElem?_cons_succ, List.set_cons_succ, List.set_cons_zero, o_ar, hd]⟩
    · simp only [eu, if_neg h0] at e
      have hd : sem2 .eq (.int b) (.int 0) = some (.bool false) := by rw [s_eq, decide_eq_false h0]
      have hp : 0 < b := by omega
      obtain ⟨c', ih⟩ := same_loop (F := F) (t := t) (p := p) (w := w) (h := h) (l := l) n (i + 1) r b (a % b) (some (.d x)) (Int.emod_nonneg _ h0) (by simpa using hn) e
      refine ⟨c', ?_⟩
      simp only [loopF, itemAt, asgT, evSs, evS, evE, evEs, consA, bnd, bndA, sB, sBA, List.getElem?_cons_zero, List.getElem?_cons_succ, List.set_cons_succ, List.set_cons_zero, o_ar, hd, vw_d, b_int, s_mod hp, setAll]
      exact ih
theorem same_b {F : CallS} {x y p w : Int} {h : Hq} {e3 e4 e5 : Option Val} (hy : 0 < y) (e : eu 400 (if x < 0 then -x else x) y = some 1) (hm1 : mulOk x w = true) (hm2 : mulOk p y = true) (hxy : x * w = p * y) :
    evSs F f_law_same.body [some (.d (.tuple [.int x, .int y])), some (.d (.int p)), some (.d (.int w)), e3, e4, e5] h = some (.ret (.d (.bool true)), h) := by
  have a0 : atD [PyData.int x, PyData.int y] 0 = some (.int x) := rfl
  have a1 : atD [PyData.int x, PyData.int y] 1 = some (.int y) := rfl
  have it : itemsOf (.tuple [PyData.int x, PyData.int y]) = some [.int x, .int y] := rfl
  have vt : viewV h (.d (.tuple [PyData.int x, PyData.int y])) = some (.tuple [.int x, .int y]) := rfl
  have hr : rangeOk 0 900 = true := by kernel_rfl
  obtain ⟨c', el⟩ := same_loop (F := F) (t := some (.d (.tuple [.int x, .int y]))) (p := some (.d (.int p))) (w := some (.d (.int w))) (h := h) (l := (rangeD 0 900).length) 400 0 (rangeD 0 900) (if x < 0 then -x else x) y e5 (by omega) (by rw [rangeD_length]; decide) e
  unfold f_law_same
  rw [evSs, evS]
  simp only [evE, evEs, consA, bnd, bndA, sBA, List.getElem?_cons_zero, List.getElem?_cons_succ, vt, it, a0, a1, vw_d, b_abs, setAll, List.set_cons_succ, List.set_cons_zero]
  rw [evSs, evS]
  simp only [evE, evEs, consA, sBA, srcOf, pureL, semI, if_pos hr]
  rw [el]
  have d1 := decide_eq_true hy
  have d2 : sem2 .eq (.int 1) (.int 1) = some (.bool true) := by rw [s_eq]; rfl
  have d3 : sem2 .eq (.int (x * w)) (.int (p * y)) = some (.bool true) := by rw [s_eq, decide_eq_true hxy]
  simp only [evSs, evS, evE, evEs, consA, bnd, bndA, sB, List.getElem?_cons_zero, List.getElem?_cons_succ, vt, it, a0, a1, o_ar, s_gt, d1, d2, d3, s_mul hm1, s_mul hm2]
/-- what _law_same finds good -/
def sameV (x y p w : Int) : Bool := decide (0 < y) && decide (eu 400 (if x < 0 then -x else x) y = some 1) && mulOk x w && mulOk p y && decide (x * w = p * y)
theorem same_eq {k : Nat} {x y p w : Int} {h : Hq} (e : sameV x y p w = true) : callF fns (k + 1) 22 [.d (.tuple [.int x, .int y]), .d (.int p), .d (.int w)] h = some (.val (.d (.bool true)), h) := by
  unfold sameV at e
  simp only [Bool.and_eq_true, decide_eq_true_eq] at e
  obtain ⟨⟨⟨⟨e1, e2⟩, e3⟩, e4⟩, e5⟩ := e
  rw [fn_at g22 (by rfl)]
  rw [show startE f_law_same.names [Val.d (.tuple [.int x, .int y]), .d (.int p), .d (.int w)] = [some (.d (.tuple [.int x, .int y])), some (.d (.int p)), some (.d (.int w)), none, none, none] from rfl, same_b e1 e2 e3 e4 e5]
  exact end_d
/-! the chances -/
theorem chance_b {F : CallS} {m r a b : Int} {z : D} {h : Hq} (e1 : F 10 [.d (.int m), .d (.int r)] h = some (.val (.d (.int a)), h)) (e2 : F 6 [.d (.int m)] h = some (.val (.d (.int b)), h)) (e3 : F 5 [.d (.int a), .d (.int b)] h = some (.val (.d z), h)) :
    evSs F f_chance_of.body [some (.d (.int m)), some (.d (.int r))] h = some (.ret (.d z), h) := by
  simp only [f_chance_of, evSs, evS, evE, evEs, consA, bndA, sB, List.getElem?_cons_zero, List.getElem?_cons_succ, e1, e2, e3]
theorem chance_eq {k m r : Nat} {x y : Int} {h : Hq} (h1 : r ≤ m) (h2 : m < 31) (e : lowV (jst m r) (fac m) = some (x, y)) : callF fns (k + 1 + 1 + 1 + 1) 11 [.d (.int (m : Nat)), .d (.int (r : Nat))] h = some (.val (.d (.tuple [.int x, .int y])), h) := by
  rw [fn_at g11 (by rfl)]
  have b := chance_b (F := callF fns (k + 1 + 1 + 1)) (h := h) (just_eq h1 h2) (handings_eq (show m < 32 by omega)) (lowest_eq (Int.le_of_lt (fac_pos m)) e)
  rw [show startE f_chance_of.names [Val.d (.int (m : Nat)), .d (.int (r : Nat))] = [some (.d (.int (m : Nat))), some (.d (.int (r : Nat)))] from rfl, b]
  exact end_d
/-- the sum of a comprehension over a range -/
theorem sum_rng {F : CallS} {e : E} {env : Env} {h : Hq} {s : Nat} {a b : Int} {its : List E} {vs : List Val} (g : Int → Int) (hi : evEs F its env h = some (.vals vs, h)) (hs : srcOf .range vs h = some (none, rangeD a b))
    (he : ∀ x : Int, a ≤ x → x < b → evE F e ((env.set s none).set s (some (.d (.int x)))) h = some (.val (.d (.int (g x))), h)) :
    evE F (.bi .sum [(.comp e (.nm s) .range its [] [s])]) env h = some (.val (.d (.int ((List.range (b - a).toNat).map fun i => g (a + (i : Nat))).sum)), h) := by
  have c := comp_rng g hi hs he
  rw [evE, evEs, c]
  simp only [evEs, consA, bndA, vw_d, b_sum]
def meanS (m : Nat) : Int := ((List.range (m + 1)).map fun r : Nat => (r : Int) * ch m r * nob (m - r)).sum
theorem ch_small2 : ∀ m : Nat, m < 32 → ∀ f : Nat, f ≤ m → ((f : Int) * ch m f < 2 ^ 64 ∧ -(2 ^ 64) < (f : Int) * ch m f) := by decide +kernel
theorem nat_of {x : Int} (h : 0 ≤ x) : ∃ n : Nat, x = (n : Nat) := ⟨x.toNat, by omega⟩
theorem sum_congr {n : Nat} {f g : Nat → Int} (h : ∀ i, i < n → f i = g i) : ((List.range n).map f).sum = ((List.range n).map g).sum := by
  congr 1
  apply List.map_congr_left
  intro i hi
  exact h i (List.mem_range.mp hi)
theorem mean_elt {F : CallS} {m n a b : Int} {e1' : Option Val} {h : Hq} (e1 : F 7 [.d (.int m), .d (.int n)] h = some (.val (.d (.int a)), h)) (e2 : F 9 [.d (.int (m - n))] h = some (.val (.d (.int b)), h)) (t1 : mulOk n a = true) (t2 : mulOk (n * a) b = true) :
    evE F (.bin .mul (.bin .mul (.var 2) (.call 7 [(.var 0), (.var 2)])) (.call 9 [(.bin .sub (.var 0) (.var 2))])) [some (.d (.int m)), e1', some (.d (.int n))] h = some (.val (.d (.int (n * a * b))), h) := by
  simp only [evE, evEs, consA, bnd, bndA, List.getElem?_cons_zero, List.getElem?_cons_succ, o_ar, s_sub, e1, e2, s_mul t1, s_mul t2]
theorem mean_sum {k m : Nat} {h : Hq} (hm : m < 31) : evE (callF fns (k + 1 + 1)) (.bi .sum [(.comp (.bin .mul (.bin .mul (.var 2) (.call 7 [(.var 0), (.var 2)])) (.call 9 [(.bin .sub (.var 0) (.var 2))])) (.nm 2) .range [(.bin .add (.var 0) (.con (.int 1)))] [] [2])]) [some (.d (.int (m : Nat))), none, none] h = some (.val (.d (.int (meanS m))), h) := by
  have q := sum_rng (F := callF fns (k + 1 + 1)) (e := .bin .mul (.bin .mul (.var 2) (.call 7 [(.var 0), (.var 2)])) (.call 9 [(.bin .sub (.var 0) (.var 2))])) (env := [some (.d (.int (m : Nat))), none, none]) (h := h) (s := 2) (a := 0) (b := (m : Int) + 1) (its := [.bin .add (.var 0) (.con (.int 1))]) (vs := [.d (.int ((m : Int) + 1))]) (fun x => x * ch m x.toNat * nob (m - x.toNat)) (by
      simp only [evEs, evE, consA, bnd, List.getElem?_cons_zero, o_ar, s_add]) (src_r1 (rok (by omega) (by omega) (by omega) (by omega))) (fun x h1 h2 => by
      obtain ⟨n, rfl⟩ := nat_of h1
      have hn : n ≤ m := by omega
      obtain ⟨s1, s2⟩ := ch_small2 m (by omega) n hn
      have en : ((n : Int)).toNat = n := by omega
      rw [en]
      exact mean_elt (chosen_eq hn (by omega)) (by rw [nat_sub hn]; exact nobof_eq (show m - n < 32 by omega)) (mul_small' (by omega) (by omega)) (mul_small' s2 s1))
  have e : (((List.range (((m : Int) + 1) - 0).toNat).map fun i : Nat => (0 + (i : Int)) * ch m (0 + (i : Int)).toNat * nob (m - (0 + (i : Int)).toNat)).sum) = meanS m := by
    have : (((m : Int) + 1) - 0).toNat = m + 1 := by omega
    rw [this]
    unfold meanS
    refine sum_congr fun i hi => ?_
    have : (0 + (i : Int)).toNat = i := by omega
    rw [this, Int.zero_add]
  rw [e] at q
  exact q
theorem mean_b {k : Nat} {m a b : Int} {z : D} {h : Hq} (h1 : 0 ≤ m) (h2 : m ≤ 30) (q : evE (callF fns (k + 1)) (.bi .sum [(.comp (.bin .mul (.bin .mul (.var 2) (.call 7 [(.var 0), (.var 2)])) (.call 9 [(.bin .sub (.var 0) (.var 2))])) (.nm 2) .range [(.bin .add (.var 0) (.con (.int 1)))] [] [2])]) [some (.d (.int m)), none, none] h = some (.val (.d (.int a)), h))
    (e2 : callF fns (k + 1) 6 [.d (.int m)] h = some (.val (.d (.int b)), h)) (e3 : callF fns (k + 1) 5 [.d (.int a), .d (.int b)] h = some (.val (.d z), h)) : evSs (callF fns (k + 1)) f_mean_right.body [some (.d (.int m)), none, none] h = some (.ret (.d z), h) := by
  unfold f_mean_right
  rw [evSs, look_t (v := m) (lo := 0) (hi := 30) (by simp only [evE, List.getElem?_cons_zero]) (by simp only [evE]) (by simp only [evE]) h1 h2]
  simp only
  rw [evSs, evS, q]
  simp only [evSs, evS, evE, evEs, consA, bndA, sB, asgV, asgT, List.set_cons_succ, List.set_cons_zero, List.getElem?_cons_zero, List.getElem?_cons_succ, e2, e3]
theorem mean_eq {k m : Nat} {x y : Int} {h : Hq} (h2 : m < 31) (e : lowV (meanS m) (fac m) = some (x, y)) : callF fns (k + 1 + 1 + 1) 12 [.d (.int (m : Nat))] h = some (.val (.d (.tuple [.int x, .int y])), h) := by
  rw [fn_at g12 (by rfl)]
  have b := mean_b (k := k + 1) (m := (m : Nat)) (h := h) (by omega) (by omega) (mean_sum h2) (handings_eq (show m < 32 by omega)) (lowest_eq (Int.le_of_lt (fac_pos m)) e)
  rw [show startE f_mean_right.names [Val.d (.int (m : Nat))] = [some (.d (.int (m : Nat))), none, none] from rfl, b]
  exact end_d
/-- at least so many -/
def leastS (m r : Nat) : Int := ((List.range (m + 1 - r)).map fun i : Nat => jst m (r + i)).sum
theorem least_elt {F : CallS} {m n a b : Int} {e1' e2' : Option Val} {h : Hq} (e1 : F 7 [.d (.int m), .d (.int n)] h = some (.val (.d (.int a)), h)) (e2 : F 9 [.d (.int (m - n))] h = some (.val (.d (.int b)), h)) (t1 : mulOk a b = true) :
    evE F (.bin .mul (.call 7 [(.var 0), (.var 3)]) (.call 9 [(.bin .sub (.var 0) (.var 3))])) [some (.d (.int m)), e1', e2', some (.d (.int n))] h = some (.val (.d (.int (a * b))), h) := by
  simp only [evE, evEs, consA, bnd, bndA, List.getElem?_cons_zero, List.getElem?_cons_succ, o_ar, s_sub, e1, e2, s_mul t1]
theorem least_sum {k m r : Nat} {e2' : Option Val} {h : Hq} (hm : m < 31) (hr : r ≤ m + 1) : evE (callF fns (k + 1 + 1)) (.bi .sum [(.comp (.bin .mul (.call 7 [(.var 0), (.var 3)]) (.call 9 [(.bin .sub (.var 0) (.var 3))])) (.nm 3) .range [(.var 1), (.bin .add (.var 0) (.con (.int 1)))] [] [3])]) [some (.d (.int (m : Nat))), some (.d (.int (r : Nat))), e2', none] h = some (.val (.d (.int (leastS m r))), h) := by
  have q := sum_rng (F := callF fns (k + 1 + 1)) (e := .bin .mul (.call 7 [(.var 0), (.var 3)]) (.call 9 [(.bin .sub (.var 0) (.var 3))])) (env := [some (.d (.int (m : Nat))), some (.d (.int (r : Nat))), e2', none]) (h := h) (s := 3) (a := (r : Nat)) (b := (m : Int) + 1) (its := [.var 1, .bin .add (.var 0) (.con (.int 1))]) (vs := [.d (.int (r : Nat)), .d (.int ((m : Int) + 1))]) (fun x => jst m x.toNat) (by
      simp only [evEs, evE, consA, bnd, List.getElem?_cons_zero, List.getElem?_cons_succ, o_ar, s_add]) (src_r2 (rok (by omega) (by omega) (by omega) (by omega))) (fun x h1 h2 => by
      obtain ⟨n, rfl⟩ := nat_of (show 0 ≤ x by omega)
      have hn : n ≤ m := by omega
      obtain ⟨s1, s2⟩ := ch_small m (by omega) n hn
      have en : ((n : Int)).toNat = n := by omega
      rw [en]
      exact least_elt (chosen_eq hn (by omega)) (by rw [nat_sub hn]; exact nobof_eq (show m - n < 32 by omega)) (mul_small' s2 s1))
  have e : (((List.range (((m : Int) + 1) - (r : Int)).toNat).map fun i : Nat => jst m ((r : Int) + (i : Int)).toNat).sum) = leastS m r := by
    have : (((m : Int) + 1) - (r : Int)).toNat = m + 1 - r := by omega
    rw [this]
    unfold leastS
    refine sum_congr fun i hi => ?_
    have : ((r : Int) + (i : Int)).toNat = r + i := by omega
    rw [this]
  rw [e] at q
  exact q
theorem least_b {k : Nat} {m r a b : Int} {z : D} {h : Hq} (h1 : 0 ≤ m) (h2 : m ≤ 30) (h3 : 0 ≤ r) (h4 : r ≤ m + 1) (q : evE (callF fns (k + 1)) (.bi .sum [(.comp (.bin .mul (.call 7 [(.var 0), (.var 3)]) (.call 9 [(.bin .sub (.var 0) (.var 3))])) (.nm 3) .range [(.var 1), (.bin .add (.var 0) (.con (.int 1)))] [] [3])]) [some (.d (.int m)), some (.d (.int r)), none, none] h = some (.val (.d (.int a)), h))
    (e2 : callF fns (k + 1) 6 [.d (.int m)] h = some (.val (.d (.int b)), h)) (e3 : callF fns (k + 1) 5 [.d (.int a), .d (.int b)] h = some (.val (.d z), h)) : evSs (callF fns (k + 1)) f_chance_at_least.body [some (.d (.int m)), some (.d (.int r)), none, none] h = some (.ret (.d z), h) := by
  unfold f_chance_at_least
  rw [evSs, look_t (v := m) (lo := 0) (hi := 30) (by simp only [evE, List.getElem?_cons_zero]) (by simp only [evE]) (by simp only [evE]) h1 h2]
  simp only
  rw [evSs, look_t (v := r) (lo := 0) (hi := m + 1) (by simp only [evE, List.getElem?_cons_zero, List.getElem?_cons_succ]) (by simp only [evE]) (by simp only [evE, bnd, List.getElem?_cons_zero, o_ar, s_add]) h3 h4]
  simp only
  rw [evSs, evS, q]
  simp only [evSs, evS, evE, evEs, consA, bndA, sB, asgV, asgT, List.set_cons_succ, List.set_cons_zero, List.getElem?_cons_zero, List.getElem?_cons_succ, e2, e3]
theorem least_eq {k m r : Nat} {x y : Int} {h : Hq} (h2 : m < 31) (hr : r ≤ m + 1) (e : lowV (leastS m r) (fac m) = some (x, y)) : callF fns (k + 1 + 1 + 1) 14 [.d (.int (m : Nat)), .d (.int (r : Nat))] h = some (.val (.d (.tuple [.int x, .int y])), h) := by
  rw [fn_at g14 (by rfl)]
  have b := least_b (k := k + 1) (m := (m : Nat)) (r := (r : Nat)) (h := h) (by omega) (by omega) (by omega) (by omega) (least_sum h2 hr) (handings_eq (show m < 32 by omega)) (lowest_eq (Int.le_of_lt (fac_pos m)) e)
  rw [show startE f_chance_at_least.names [Val.d (.int (m : Nat)), .d (.int (r : Nat))] = [some (.d (.int (m : Nat))), some (.d (.int (r : Nat))), none, none] from rfl, b]
  exact end_d
/-- some are told -/
theorem told_b {k : Nat} {m t r a b c : Int} {z : D} {h : Hq} (h1 : 0 ≤ m) (h2 : m ≤ 30) (h3 : 0 ≤ t) (h4 : t ≤ r) (h5 : r ≤ m) (e1 : callF fns (k + 1) 7 [.d (.int (m - t)), .d (.int (r - t))] h = some (.val (.d (.int a)), h)) (e2 : callF fns (k + 1) 9 [.d (.int (m - r))] h = some (.val (.d (.int b)), h)) (t1 : mulOk a b = true)
    (e4 : callF fns (k + 1) 6 [.d (.int (m - t))] h = some (.val (.d (.int c)), h)) (e3 : callF fns (k + 1) 5 [.d (.int (a * b)), .d (.int c)] h = some (.val (.d z), h)) : evSs (callF fns (k + 1)) f_told_chance.body [some (.d (.int m)), some (.d (.int t)), some (.d (.int r))] h = some (.ret (.d z), h) := by
  unfold f_told_chance
  rw [evSs, look_t (v := m) (lo := 0) (hi := 30) (by simp only [evE, List.getElem?_cons_zero]) (by simp only [evE]) (by simp only [evE]) h1 h2]
  simp only
  rw [evSs, look_t (v := t) (lo := 0) (hi := m) (by simp only [evE, List.getElem?_cons_zero, List.getElem?_cons_succ]) (by simp only [evE]) (by simp only [evE, List.getElem?_cons_zero]) h3 (by omega)]
  simp only
  rw [evSs, look_t (v := r) (lo := 0) (hi := m) (by simp only [evE, List.getElem?_cons_zero, List.getElem?_cons_succ]) (by simp only [evE]) (by simp only [evE, List.getElem?_cons_zero]) (by omega) h5]
  have d1 : decide (r < t) = false := decide_eq_false (by omega)
  simp only [evSs, evS, evE, evEs, consA, bnd, bndA, sB, asgV, asgT, List.getElem?_cons_zero, List.getElem?_cons_succ, o_ar, s_lt, d1, s_sub, e1, e2, s_mul t1, e4, e3]
theorem told_eq {k m t r : Nat} {x y : Int} {h : Hq} (h2 : m < 31) (h4 : t ≤ r) (h5 : r ≤ m) (e : lowV (jst (m - t) (r - t)) (fac (m - t)) = some (x, y)) : callF fns (k + 1 + 1 + 1) 15 [.d (.int (m : Nat)), .d (.int (t : Nat)), .d (.int (r : Nat))] h = some (.val (.d (.tuple [.int x, .int y])), h) := by
  rw [fn_at g15 (by rfl)]
  obtain ⟨s1, s2⟩ := ch_small (m - t) (by omega) (r - t) (by omega)
  have ej : jst (m - t) (r - t) = ch (m - t) (r - t) * nob (m - r) := by
    unfold jst
    rw [show m - t - (r - t) = m - r by omega]
  rw [ej] at e
  have b := told_b (k := k + 1) (m := (m : Nat)) (t := (t : Nat)) (r := (r : Nat)) (h := h) (by omega) (by omega) (by omega) (by omega) (by omega) (by rw [nat_sub (show t ≤ m by omega), nat_sub h4]; exact chosen_eq (by omega) (by omega)) (by rw [nat_sub h5]; exact nobof_eq (by omega)) (mul_small' s2 s1) (by rw [nat_sub (show t ≤ m by omega)]; exact handings_eq (by omega)) (lowest_eq (Int.le_of_lt (fac_pos _)) e)
  rw [show startE f_told_chance.names [Val.d (.int (m : Nat)), .d (.int (t : Nat)), .d (.int (r : Nat))] = [some (.d (.int (m : Nat))), some (.d (.int (t : Nat))), some (.d (.int (r : Nat)))] from rfl, b]
  exact end_d
/-- more told than right -/
theorem told0_b {k : Nat} {m t r : Int} {h : Hq} (h1 : 0 ≤ m) (h2 : m ≤ 30) (h3 : 0 ≤ r) (h4 : r < t) (h5 : t ≤ m) : evSs (callF fns (k + 1)) f_told_chance.body [some (.d (.int m)), some (.d (.int t)), some (.d (.int r))] h = some (.ret (.d (.tuple [.int 0, .int 1])), h) := by
  unfold f_told_chance
  rw [evSs, look_t (v := m) (lo := 0) (hi := 30) (by simp only [evE, List.getElem?_cons_zero]) (by simp only [evE]) (by simp only [evE]) h1 h2]
  simp only
  rw [evSs, look_t (v := t) (lo := 0) (hi := m) (by simp only [evE, List.getElem?_cons_zero, List.getElem?_cons_succ]) (by simp only [evE]) (by simp only [evE, List.getElem?_cons_zero]) (by omega) h5]
  simp only
  rw [evSs, look_t (v := r) (lo := 0) (hi := m) (by simp only [evE, List.getElem?_cons_zero, List.getElem?_cons_succ]) (by simp only [evE]) (by simp only [evE, List.getElem?_cons_zero]) h3 (by omega)]
  have d1 : decide (r < t) = true := decide_eq_true h4
  have hl : ([PyData.int 0, PyData.int 1] : List D).length ≤ line := by unfold line; simp
  simp only [evSs, evS, evE, evEs, consA, bnd, bndA, sB, List.getElem?_cons_zero, List.getElem?_cons_succ, o_ar, s_lt, d1, pureL, if_pos hl]
theorem told0_eq {k m t r : Nat} {h : Hq} (h2 : m < 31) (h4 : r < t) (h5 : t ≤ m) : callF fns (k + 1 + 1) 15 [.d (.int (m : Nat)), .d (.int (t : Nat)), .d (.int (r : Nat))] h = some (.val (.d (.tuple [.int 0, .int 1])), h) := by
  rw [fn_at g15 (by rfl)]
  have b := told0_b (k := k) (m := (m : Nat)) (t := (t : Nat)) (r := (r : Nat)) (h := h) (by omega) (by omega) (by omega) (by omega) (by omega)
  rw [show startE f_told_chance.names [Val.d (.int (m : Nat)), .d (.int (t : Nat)), .d (.int (r : Nat))] = [some (.d (.int (m : Nat))), some (.d (.int (t : Nat))), some (.d (.int (r : Nat)))] from rfl, b]
  exact end_d
end Ev
end

section
set_option Elab.async false
set_option linter.all false
set_option maxRecDepth 100000
set_option autoImplicit false
set_option maxHeartbeats 0
namespace Ev
open PySem
/-! the sums -/
theorem P1 : ∀ m : Nat, m < 29 → nob (m + 2) = ((m + 2 : Nat) - 1 : Int) * (nob (m + 1) + nob m) := by decide +kernel
theorem P2 : ∀ m : Nat, m < 31 → leastS m 0 = fac m := by decide +kernel
theorem P2b : ∀ m : Nat, m < 30 → lowV (meanS (m + 1)) (fac (m + 1)) = some (1, 1) := by decide +kernel
theorem P3 : ∀ m : Nat, m < 31 → ∀ r : Nat, r < m → ((r : Int) + 1) * jst m (r + 1) = (m : Int) * jst (m - 1) r := by decide +kernel
def goodB (p w : Int) : Bool := match lowV p w with
  | some (x, y) => sameV x y p w
  | none => false
theorem P4 : ∀ m : Nat, m < 31 → ∀ r : Nat, r ≤ m → goodB (jst m r) (fac m) = true := by decide +kernel
theorem P5 : ∀ m : Nat, m < 31 → ∀ r : Nat, r ≤ m → goodB (leastS m r) (fac m) = true := by decide +kernel
theorem good_of {p w : Int} (h : goodB p w = true) : ∃ x y, lowV p w = some (x, y) ∧ sameV x y p w = true := by
  unfold goodB at h
  split at h
  · exact ⟨_, _, by assumption, h⟩
  · cases h
end Ev
end

section
set_option Elab.async false
set_option linter.all false
set_option maxRecDepth 100000
set_option autoImplicit false
set_option maxHeartbeats 0
namespace Ev
open PySem
/-! the law's text, in parts -/
def Q0 : S := .asg (.nm 3) (.call 16 [(.var 0), (.var 2)])
def Q1 : S := .asg (.nm 1) (.bin .add (.con (.int 2)) (.call 17 [(.var 3), (.con (.int 29))]))
def Q2 : S := .if_ (.bin .ne (.call 8 [(.var 1)]) (.bin .mul (.bin .sub (.var 1) (.con (.int 1))) (.bin .add (.call 8 [(.bin .sub (.var 1) (.con (.int 1)))]) (.call 8 [(.bin .sub (.var 1) (.con (.int 2)))])))) [.ret (.con (.bool false))] []
def Q3 : S := .if_ (.or_ (.bin .ne (.bi .sum [(.comp (.call 10 [(.var 1), (.var 4)]) (.nm 4) .range [(.bin .add (.var 1) (.con (.int 1)))] [] [4])]) (.call 21 [(.var 1)])) (.bin .ne (.call 12 [(.var 1)]) (.tup [(.con (.int 1)), (.con (.int 1))]))) [.ret (.con (.bool false))] []
def Q4 : S := .asg (.nm 4) (.call 17 [(.var 3), (.var 1)])
def Q5 : S := .if_ (.bin .ne (.bin .mul (.bin .add (.var 4) (.con (.int 1))) (.call 10 [(.var 1), (.bin .add (.var 4) (.con (.int 1)))])) (.bin .mul (.var 1) (.call 10 [(.bin .sub (.var 1) (.con (.int 1))), (.var 4)]))) [.ret (.con (.bool false))] []
def Q6 : S := .if_ (.un .not_ (.call 22 [(.call 11 [(.var 1), (.var 4)]), (.call 10 [(.var 1), (.var 4)]), (.call 21 [(.var 1)])])) [.ret (.con (.bool false))] []
def Q7 : S := .if_ (.un .not_ (.call 22 [(.call 14 [(.var 1), (.var 4)]), (.bi .sum [(.comp (.call 10 [(.var 1), (.var 10)]) (.nm 10) .range [(.var 4), (.bin .add (.var 1) (.con (.int 1)))] [] [10])]), (.call 21 [(.var 1)])])) [.ret (.con (.bool false))] []
def Q8 : S := .asg (.nm 5) (.call 17 [(.var 3), (.bin .add (.var 4) (.con (.int 1)))])
def Q9 : S := .if_ (.or_ (.bin .ne (.call 15 [(.var 1), (.var 5), (.var 4)]) (.call 11 [(.bin .sub (.var 1) (.var 5)), (.bin .sub (.var 4) (.var 5))])) (.bin .ne (.call 15 [(.var 1), (.bin .add (.var 4) (.con (.int 1))), (.var 4)]) (.tup [(.con (.int 0)), (.con (.int 1))]))) [.ret (.con (.bool false))] []
def Q10 : S := .unp [6, 7] [(.nlistR [(.call 17 [(.var 3), (.con (.int 31))])]), (.tup [])]
def Q11 : S := .for_ (.nm 8) .range [(.bi .len [(.var 6)])] [.asg (.nm 7) (.bin .add (.var 7) (.tup [(.meth .popAt (.var 6) [(.ife (.bin .eq (.call 17 [(.var 3), (.con (.int 2))]) (.con (.int 0))) (.call 17 [(.var 3), (.bi .len [(.var 6)])]) (.con (.int 0)))])]))]
def Q12 : S := .if_ (.bin .ne (.callk 13 [] [(.var 7)] [0]) (.bi .tuple [(.comp (.var 9) (.nm 9) .range [(.bi .len [(.var 7)])] [(.bin .eq (.idx (.var 7) (.var 9)) (.var 9))] [9])])) [.ret (.con (.bool false))] []
def lawTurn : List S := [Q0, Q1, Q2, Q3, Q4, Q5, Q6, Q7, Q8, Q9, Q10, Q11, Q12]
def Z0 : S := .for_ (.nm 1) .range [(.con (.int 6))] [.if_ (.un .not_ (.call 23 [(.var 1)])) [.ret (.con (.bool false))] []]
def Z1 : S := .for_ (.nm 2) .range [(.bi .max [(.con (.int 1)), (.bi .min [(.con (.int 8)), (.bi .len [(.var 0)])])])] lawTurn
def Z2 : S := .asg (.nm 5) (.lst [(.refused (.call 8 [(.con (.int 31))])), (.refused (.call 8 [(.con (.bool true))])), (.refused (.call 10 [(.un .neg (.con (.int 1))), (.con (.int 9))])), (.refused (.call 10 [(.con (.int 5)), (.con (.int 6))])), (.refused (.call 11 [(.con (.int 5)), (.un .neg (.con (.int 1)))])), (.refused (.call 14 [(.con (.int 5)), (.con (.int 7))])), (.refused (.call 12 [(.con .none)])), (.refused (.call 15 [(.con (.int 5)), (.con (.int 6)), (.con (.int 6))])), (.refused (.call 15 [(.con (.int 5)), (.con (.int 5)), (.con (.int 6))])), (.refused (.call 13 [(.lst [(.con (.int 0))])])), (.refused (.call 13 [(.tup [(.con (.int 0)), (.con (.int 0))])])), (.refused (.call 13 [(.bi .tuple [(.bi .listR [(.con (.int 31))])])]))])
def Z3 : S := .if_ (.bin .ne (.var 5) (.lst [(.con (.str (Str.ofString "many"))), (.con (.str (Str.ofString "many"))), (.con (.str (Str.ofString "many"))), (.con (.str (Str.ofString "right"))), (.con (.str (Str.ofString "right"))), (.con (.str (Str.ofString "right"))), (.con (.str (Str.ofString "many"))), (.con (.str (Str.ofString "told"))), (.con (.str (Str.ofString "right"))), (.con (.str (Str.ofString "order"))), (.con (.str (Str.ofString "order"))), (.con (.str (Str.ofString "order")))])) [.ret (.con (.bool false))] []
def Z4 : S := .ret (.and_ (.bin .eq (.call 8 [(.con (.int 0))]) (.con (.int 1))) (.and_ (.bin .eq (.call 8 [(.con (.int 5))]) (.con (.int 44))) (.and_ (.bin .eq (.call 10 [(.con (.int 4)), (.con (.int 2))]) (.con (.int 6))) (.and_ (.bin .eq (.call 11 [(.con (.int 3)), (.con (.int 0))]) (.tup [(.con (.int 1)), (.con (.int 3))])) (.bin .eq (.call 12 [(.con (.int 0))]) (.tup [(.con (.int 0)), (.con (.int 1))]))))))
theorem law_body : f_law.body = [Z0, Z1, Z2, Z3, Z4] := by kernel_rfl
theorem cons_nx {F : CallS} {s : S} {r : List S} {env env1 : Env} {h h1 : Hq} (e : evS F s env h = some (.nx env1, h1)) : evSs F (s :: r) env h = evSs F r env1 h1 := by simp only [evSs, e]
theorem if_skip {F : CallS} {c : E} {b : List S} {env : Env} {h : Hq} (e : evE F c env h = some (.val (.d (.bool false)), h)) : evS F (.if_ c b []) env h = some (.nx env, h) := by simp only [evS, sB, e, evSs]
theorem or_ff {F : CallS} {a b : E} {env : Env} {h : Hq} (e1 : evE F a env h = some (.val (.d (.bool false)), h)) (e2 : evE F b env h = some (.val (.d (.bool false)), h)) : evE F (.or_ a b) env h = some (.val (.d (.bool false)), h) := by simp only [evE, bnd, e1, e2]
theorem not_t {F : CallS} {a : E} {env : Env} {h : Hq} (e1 : evE F a env h = some (.val (.d (.bool true)), h)) : evE F (.un .not_ a) env h = some (.val (.d (.bool false)), h) := by
  have b3 : sem1 .not_ (.bool true) = some (.bool false) := rfl
  simp only [evE, bnd, e1, b3]
/-- two values are not unlike -/
theorem ne_f {F : CallS} {a b : E} {x : D} {env : Env} {h : Hq} (e1 : evE F a env h = some (.val (.d x), h)) (e2 : evE F b env h = some (.val (.d x), h)) (hx : sem2 .ne x x = some (.bool false)) : evE F (.bin .ne a b) env h = some (.val (.d (.bool false)), h) := by simp only [evE, bnd, e1, e2, o_ar, hx]
section
variable {F : CallS} {env : Env} {h : Hq} {m r t : Int}
theorem c2_ok {a b c : Int} (g1 : env[1]? = some (some (.d (.int m)))) (e0 : F 8 [.d (.int m)] h = some (.val (.d (.int a)), h)) (e1 : F 8 [.d (.int (m - 1))] h = some (.val (.d (.int b)), h)) (e2 : F 8 [.d (.int (m - 2))] h = some (.val (.d (.int c)), h)) (hm : mulOk (m - 1) (b + c) = true) (hp : a = (m - 1) * (b + c)) : evS F Q2 env h = some (.nx env, h) := by
  refine if_skip (ne_f (x := .int a) ?_ ?_ ne_same)
  · simp only [evE, evEs, consA, bndA, g1, e0]
  · rw [hp]
    simp only [evE, evEs, consA, bnd, bndA, g1, o_ar, s_sub, s_add, e1, e2, s_mul hm]
theorem sum_just {k mm rr s : Nat} {its : List E} {vs : List Val} {a b : Int} (hmm : mm < 31) (g1 : (env.set s none)[1]? = some (some (.d (.int (mm : Nat))))) (hs : 1 < s) (hl : s < env.length) (hi : evEs (callF fns (k + 1 + 1 + 1)) its env h = some (.vals vs, h)) (hsr : srcOf .range vs h = some (none, rangeD a b)) (ha : 0 ≤ a) (hb : b ≤ mm + 1) :
    evE (callF fns (k + 1 + 1 + 1)) (.bi .sum [(.comp (.call 10 [(.var 1), (.var s)]) (.nm s) .range its [] [s])]) env h = some (.val (.d (.int ((List.range (b - a).toNat).map fun i : Nat => jst mm (a + (i : Int)).toNat).sum)), h) := by
  refine sum_rng (fun x => jst mm x.toNat) hi hsr fun x h1 h2 => ?_
  obtain ⟨n, rfl⟩ := nat_of (show 0 ≤ x by omega)
  have en : ((n : Int)).toNat = n := by omega
  rw [en]
  have e1 := just_eq (k := k) (h := h) (show n ≤ mm by omega) hmm
  have q1 : ((env.set s none).set s (some (.d (.int (n : Nat)))))[1]? = some (some (.d (.int (mm : Nat)))) := by rw [List.getElem?_set_ne (by omega)]; exact g1
  have q2 : ((env.set s none).set s (some (.d (.int (n : Nat)))))[s]? = some (some (.d (.int (n : Nat)))) := List.getElem?_set_self (by rw [List.length_set]; exact hl)
  generalize jst mm n = v at e1
  generalize (mm : Int) = m' at *
  generalize (n : Int) = n' at *
  simp only [evE, evEs, consA, bndA, q1, q2, e1]
theorem c5_ok {a b : Int} (g1 : env[1]? = some (some (.d (.int m)))) (g4 : env[4]? = some (some (.d (.int r)))) (e1 : F 10 [.d (.int m), .d (.int (r + 1))] h = some (.val (.d (.int a)), h)) (e2 : F 10 [.d (.int (m - 1)), .d (.int r)] h = some (.val (.d (.int b)), h)) (h1 : mulOk (r + 1) a = true) (h2 : mulOk m b = true) (hp : (r + 1) * a = m * b) : evS F Q5 env h = some (.nx env, h) := by
  refine if_skip (ne_f (x := .int ((r + 1) * a)) ?_ ?_ ne_same)
  · simp only [evE, evEs, consA, bnd, bndA, g1, g4, o_ar, s_add, e1, s_mul h1]
  · rw [hp]
    simp only [evE, evEs, consA, bnd, bndA, g1, g4, o_ar, s_sub, e2, s_mul h2]
theorem c6_ok {a b : Int} {z : D} (g1 : env[1]? = some (some (.d (.int m)))) (g4 : env[4]? = some (some (.d (.int r)))) (e1 : F 11 [.d (.int m), .d (.int r)] h = some (.val (.d z), h)) (e2 : F 10 [.d (.int m), .d (.int r)] h = some (.val (.d (.int a)), h)) (e3 : F 21 [.d (.int m)] h = some (.val (.d (.int b)), h)) (e4 : F 22 [.d z, .d (.int a), .d (.int b)] h = some (.val (.d (.bool true)), h)) : evS F Q6 env h = some (.nx env, h) := by
  refine if_skip (not_t ?_)
  simp only [evE, evEs, consA, bndA, g1, g4, e1, e2, e3, e4]
theorem c7_ok {a b : Int} {z : D} (g1 : env[1]? = some (some (.d (.int m)))) (g4 : env[4]? = some (some (.d (.int r)))) (e1 : F 14 [.d (.int m), .d (.int r)] h = some (.val (.d z), h)) (e2 : evE F (.bi .sum [(.comp (.call 10 [(.var 1), (.var 10)]) (.nm 10) .range [(.var 4), (.bin .add (.var 1) (.con (.int 1)))] [] [10])]) env h = some (.val (.d (.int a)), h)) (e3 : F 21 [.d (.int m)] h = some (.val (.d (.int b)), h)) (e4 : F 22 [.d z, .d (.int a), .d (.int b)] h = some (.val (.d (.bool true)), h)) : evS F Q7 env h = some (.nx env, h) := by
  refine if_skip (not_t ?_)
  have e1' : evE F (.call 14 [(.var 1), (.var 4)]) env h = some (.val (.d z), h) := by simp only [evE, evEs, consA, bndA, g1, g4, e1]
  have e3' : evE F (.call 21 [(.var 1)]) env h = some (.val (.d (.int b)), h) := by simp only [evE, evEs, consA, bndA, g1, e3]
  rw [evE, evEs, e1']
  simp only [consA]
  rw [evEs, e2]
  simp only [consA]
  rw [evEs, e3']
  simp only [consA, evEs, bndA, e4]
theorem c9_ok {x y : Int} (g1 : env[1]? = some (some (.d (.int m)))) (g4 : env[4]? = some (some (.d (.int r)))) (g5 : env[5]? = some (some (.d (.int t)))) (e1 : F 15 [.d (.int m), .d (.int t), .d (.int r)] h = some (.val (.d (.tuple [.int x, .int y])), h)) (e2 : F 11 [.d (.int (m - t)), .d (.int (r - t))] h = some (.val (.d (.tuple [.int x, .int y])), h))
    (e3 : F 15 [.d (.int m), .d (.int (r + 1)), .d (.int r)] h = some (.val (.d (.tuple [.int 0, .int 1])), h)) : evS F Q9 env h = some (.nx env, h) := by
  have hl : ([PyData.int 0, PyData.int 1] : List D).length ≤ line := by unfold line; simp
  refine if_skip (or_ff (ne_f ?_ ?_ (ne_pair (x := x) (y := y))) (ne_f ?_ ?_ (ne_pair (x := 0) (y := 1))))
  · simp only [evE, evEs, consA, bndA, g1, g4, g5, e1]
  · simp only [evE, evEs, consA, bnd, bndA, g1, g4, g5, o_ar, s_sub, e2]
  · simp only [evE, evEs, consA, bnd, bndA, g1, g4, o_ar, s_add, e3]
  · simp only [evE, evEs, consA, bndA, pureL, if_pos hl]
theorem c3_ok {s : Int} (g1 : env[1]? = some (some (.d (.int m)))) (e1 : evE F (.bi .sum [(.comp (.call 10 [(.var 1), (.var 4)]) (.nm 4) .range [(.bin .add (.var 1) (.con (.int 1)))] [] [4])]) env h = some (.val (.d (.int s)), h)) (e2 : F 21 [.d (.int m)] h = some (.val (.d (.int s)), h)) (e3 : F 12 [.d (.int m)] h = some (.val (.d (.tuple [.int 1, .int 1])), h)) : evS F Q3 env h = some (.nx env, h) := by
  have hl : ([PyData.int 1, PyData.int 1] : List D).length ≤ line := by unfold line; simp
  refine if_skip (or_ff (ne_f e1 ?_ ne_same) (ne_f ?_ ?_ (ne_pair (x := 1) (y := 1))))
  · simp only [evE, evEs, consA, bndA, g1, e2]
  · simp only [evE, evEs, consA, bndA, g1, e3]
  · simp only [evE, evEs, consA, bndA, pureL, if_pos hl]
end
end Ev
end

section
set_option Elab.async false
set_option linter.all false
set_option maxRecDepth 100000
set_option autoImplicit false
set_option maxHeartbeats 0
namespace Ev
open PySem
/-! the drawn order -/
theorem g16 : fns[16]? = some fDice := by kernel_rfl
theorem g17 : fns[17]? = some fRoll := by kernel_rfl
theorem map_erase {ls : List Int} (u : Nat) : (ls.map PyData.int).eraseIdx u = (ls.eraseIdx u).map PyData.int := by
  rw [List.eraseIdx_eq_take_drop_succ, List.eraseIdx_eq_take_drop_succ, List.map_append, List.map_take, List.map_drop]
theorem erase_perm : ∀ {l : List Int} {i : Nat} (h : i < l.length), (l[i] :: l.eraseIdx i).Perm l
  | [], _, h => by simp at h
  | a :: l, 0, _ => by simp
  | a :: l, i + 1, h => by
    have ih := erase_perm (l := l) (i := i) (by simpa using h)
    simp only [List.getElem_cons_succ, List.eraseIdx_cons_succ]
    exact (List.Perm.swap _ _ _).trans (ih.cons a)
/-- the list's place, the dice' place, the order: so far -/
structure Ord (X : Ob) (n q : Nat) (h : Hq) (m : Int) (os ls : List Int) (N : Nat) : Prop where
  x : h[0]? = some X
  n0 : n ≠ 0
  q0 : q ≠ 0
  nq : n ≠ q
  dice : Dice h n m
  left : h[q]? = some (.lst (ls.map PyData.int))
  perm : (os ++ ls).Perm ((List.range N).map fun i : Nat => (i : Int))
def turn11 : List S := [.asg (.nm 7) (.bin .add (.var 7) (.tup [(.meth .popAt (.var 6) [(.ife (.bin .eq (.call 17 [(.var 3), (.con (.int 2))]) (.con (.int 0))) (.call 17 [(.var 3), (.bi .len [(.var 6)])]) (.con (.int 0)))])]))]
theorem ix_nat {n u : Nat} (h : u < n) : ixOf n (u : Nat) = some u := by
  unfold ixOf
  rw [if_pos (by omega), if_pos (by omega)]
  simp
theorem add_tup {xs ys : List D} (h : xs.length + ys.length ≤ line) : sem2 .add (.tuple xs) (.tuple ys) = some (.tuple (xs ++ ys)) := if_pos h
theorem pick_ok {k : Nat} {X : Ob} {n q : Nat} {h : Hq} {m : Int} {os ls : List Int} {N : Nat} {env : Env} (o : Ord X n q h m os ls N) (hm : m + 2 < 1000000) (hl : ls ≠ []) (hN : N ≤ 30) (g3 : env[3]? = some (some (.ref n))) (g6 : env[6]? = some (some (.ref q))) :
    ∃ (u : Nat) (h' : Hq), u < ls.length ∧ evE (callF fns (k + 1)) (.ife (.bin .eq (.call 17 [(.var 3), (.con (.int 2))]) (.con (.int 0))) (.call 17 [(.var 3), (.bi .len [(.var 6)])]) (.con (.int 0))) env h = some (.val (.d (.int (u : Nat))), h') ∧ Ord X n q h' (m + 2) os ls N := by
  have hp : 0 < ls.length := List.length_pos_iff.mpr hl
  have hN2 : ls.length ≤ 30 := by
    have := o.perm.length_eq
    simp only [List.length_append, List.length_map, List.length_range] at this
    omega
  obtain ⟨v, h1, v1, v2, e1, l1, d1, o1⟩ := roll_ok (k := k) g17 o.dice (by omega) (t := 2) (by omega) (by omega)
  have c1 : evE (callF fns (k + 1)) (.bin .eq (.call 17 [(.var 3), (.con (.int 2))]) (.con (.int 0))) env h = some (.val (.d (.bool (decide (v = 0)))), h1) := by
    simp only [evE, evEs, consA, bnd, bndA, g3, e1, o_ar, s_eq]
  have x1 : h1[0]? = some X := by rw [o1 0 (Ne.symm o.n0)]; exact o.x
  have q1 : h1[q]? = some (.lst (ls.map PyData.int)) := by rw [o1 q (Ne.symm o.nq)]; exact o.left
  by_cases hv : v = 0
  · obtain ⟨u, h2, u1, u2, e2, l2, d2, o2⟩ := roll_ok (k := k) g17 d1 (by omega) (t := (ls.length : Nat)) (by omega) (by omega)
    obtain ⟨un, rfl⟩ := nat_of u1
    have vw := vw_ref (v_ref q1)
    have bl : semB .len [.list (ls.map PyData.int)] = some (.int (ls.length : Nat)) := by rw [b_len, List.length_map]
    refine ⟨un, h2, by omega, ?_, ⟨by rw [o2 0 (Ne.symm o.n0)]; exact x1, o.n0, o.q0, o.nq, ?_, by rw [o2 q (Ne.symm o.nq)]; exact q1, o.perm⟩⟩
    · rw [evE, c1, decide_eq_true hv]
      generalize (ls.length : Int) = L at bl e2
      simp only [bnd, evE, evEs, consA, bndA, g3, g6, vw, bl, e2]
    · obtain ⟨a, b, c, q⟩ := d2.ex
      exact ⟨a, b, c, q.1, q.2.1, q.2.2.1, q.2.2.2.1, q.2.2.2.2.1, by omega⟩
  · refine ⟨0, h1, hp, ?_, ⟨x1, o.n0, o.q0, o.nq, ?_, q1, o.perm⟩⟩
    · rw [evE, c1, decide_eq_false hv]
      simp only [bnd, evE]
      rfl
    · obtain ⟨a, b, c, q⟩ := d1.ex
      exact ⟨a, b, c, q.1, q.2.1, q.2.2.1, q.2.2.2.1, q.2.2.2.2.1, by omega⟩
theorem turn11_ok {k : Nat} {X : Ob} {n q : Nat} {h : Hq} {m : Int} {os ls : List Int} {N : Nat} {env : Env} (o : Ord X n q h m os ls N) (hm : m + 2 < 1000000) (hl : ls ≠ []) (hN : N ≤ 30) (g3 : env[3]? = some (some (.ref n))) (g6 : env[6]? = some (some (.ref q))) (g7 : env[7]? = some (some (.d (.tuple (os.map PyData.int))))) :
    ∃ (y : Int) (ls' : List Int) (h' : Hq), ls'.length + 1 = ls.length ∧ evSs (callF fns (k + 1)) turn11 env h = some (.nx (env.set 7 (some (.d (.tuple ((os ++ [y]).map PyData.int))))), h') ∧ Ord X n q h' (m + 2) (os ++ [y]) ls' N := by
  obtain ⟨u, h1, hu, e1, o1⟩ := pick_ok (k := k) o hm hl hN g3 g6
  have hos : os.length ≤ 30 := by
    have := o.perm.length_eq
    simp only [List.length_append, List.length_map, List.length_range] at this
    omega
  have live : isLive h (.ref q) = true := by simp only [isLive, o.left]
  have hix : ixOf (ls.map PyData.int).length (u : Nat) = some u := by rw [List.length_map]; exact ix_nat hu
  have hy : (ls.map PyData.int)[u]? = some (.int ls[u]) := by simp [hu]
  have hadd : (os.map PyData.int).length + [PyData.int ls[u]].length ≤ line := by
    simp only [List.length_map, List.length_cons, List.length_nil]
    unfold line
    omega
  have hone : ([PyData.int ls[u]] : List D).length ≤ line := by unfold line; simp
  refine ⟨ls[u], ls.eraseIdx u, h1.set q (.lst ((ls.eraseIdx u).map PyData.int)), ?_, ?_, ⟨by rw [List.getElem?_set_ne o.q0]; exact o1.x, o.n0, o.q0, o.nq, ?_, set_at o1.left, ?_⟩⟩
  · rw [List.length_eraseIdx_of_lt hu]
    omega
  · unfold turn11
    rw [evSs, evS, evE]
    have ea : evE (callF fns (k + 1)) (.tup [(.meth .popAt (.var 6) [(.ife (.bin .eq (.call 17 [(.var 3), (.con (.int 2))]) (.con (.int 0))) (.call 17 [(.var 3), (.bi .len [(.var 6)])]) (.con (.int 0)))])]) env h = some (.val (.d (.tuple [.int ls[u]])), h1.set q (.lst ((ls.eraseIdx u).map PyData.int))) := by
      rw [evE, evEs, evE]
      have e6 : evE (callF fns (k + 1)) (.var 6) env h = some (.val (.ref q), h) := by simp only [evE, g6]
      rw [e6]
      simp only [bnd, live]
      rw [evEs, e1]
      simp only [consA, evEs, bndA, semM, o1.left, hix, hy, map_erase, pureL, if_pos hone]
    have e7 : evE (callF fns (k + 1)) (.var 7) env h = some (.val (.d (.tuple (os.map PyData.int))), h) := by simp only [evE, g7]
    rw [e7]
    simp only [bnd, ea, o_ar, add_tup hadd, sB, asgV, asgT, evSs, List.map_append, List.map_cons, List.map_nil]
  · obtain ⟨a, b, c, z⟩ := o1.dice.ex
    exact ⟨a, b, c, by rw [List.getElem?_set_ne (Ne.symm o.nq)]; exact z.1, z.2⟩
  · refine List.Perm.trans ?_ o.perm
    rw [List.append_assoc]
    exact List.Perm.append_left _ (erase_perm hu)
/-- the env's shape -/
def Sh (env : Env) : Prop := env.length = 11 ∧ env[0]? = some (some (.ref 0))
theorem Sh.set {env : Env} (h : Sh env) {i : Nat} {v : Option Val} (hi : i ≠ 0) : Sh (env.set i v) := ⟨by rw [List.length_set]; exact h.1, by rw [List.getElem?_set_ne hi]; exact h.2⟩
theorem q11_ok {k : Nat} {X : Ob} {n q N : Nat} {h : Hq} {m : Int} {ls : List Int} {env : Env} (sh : Sh env) (o : Ord X n q h m [] ls N) (hm : m < 1000) (hN : N ≤ 30) (g3 : env[3]? = some (some (.ref n))) (g6 : env[6]? = some (some (.ref q))) (g7 : env[7]? = some (some (.d (.tuple [])))) :
    ∃ (os : List Int) (env' : Env) (h' : Hq) (m' : Int), evS (callF fns (k + 1)) Q11 env h = some (.nx env', h') ∧ Sh env' ∧ env'[7]? = some (some (.d (.tuple (os.map PyData.int)))) ∧ Ord X n q h' m' os [] N := by
  have hlen : ls.length = N := by
    have := o.perm.length_eq
    simpa using this
  have bl : semB .len [.list (ls.map PyData.int)] = some (.int (ls.length : Nat)) := by rw [b_len, List.length_map]
  have vw := vw_ref (v_ref o.left)
  obtain ⟨env', h', e, os, ls', sh', g3', g6', g7', o', l1, l2⟩ := for_inv (k := .range) (src := none) (l := (rangeD 0 (ls.length : Nat)).length) (t := .nm 8) (body := evSs (callF fns (k + 1)) turn11) rfl
    (fun j env h => ∃ os ls', Sh env ∧ env[3]? = some (some (.ref n)) ∧ env[6]? = some (some (.ref q)) ∧ env[7]? = some (some (.d (.tuple (os.map PyData.int)))) ∧ Ord X n q h (m + 2 * j) os ls' N ∧ os.length = j ∧ ls'.length + j = ls.length)
    (rangeD 0 (ls.length : Nat)) 0 env h ⟨[], ls, sh, g3, g6, g7, by simpa using o, rfl, rfl⟩ (fun j x env h hj p => by
      obtain ⟨os, ls', sh, g3, g6, g7, o, l1, l2⟩ := p
      obtain ⟨hj2, rfl⟩ := rangeD_get hj
      simp only [Nat.zero_add] at o l1 l2 ⊢
      have hj3 : j < ls.length := by omega
      obtain ⟨y, ls2, h2, l3, e2, o2⟩ := turn11_ok (k := k) (env := env.set 8 (some (.d (.int (0 + (j : Int)))))) o (by omega) (by intro z; subst z; simp at l2; omega) hN (by rw [List.getElem?_set_ne (by decide)]; exact g3) (by rw [List.getElem?_set_ne (by decide)]; exact g6) (by rw [List.getElem?_set_ne (by decide)]; exact g7)
      refine ⟨_, _, h2, rfl, e2, os ++ [y], ls2, (sh.set (by decide)).set (by decide), ?_, ?_, ?_, ?_, by simp [l1], by omega⟩
      · rw [List.getElem?_set_ne (by decide), List.getElem?_set_ne (by decide)]
        exact g3
      · rw [List.getElem?_set_ne (by decide), List.getElem?_set_ne (by decide)]
        exact g6
      · exact List.getElem?_set_self (by rw [List.length_set, sh.1]; decide)
      · have e : m + 2 * ((j + 1 : Nat) : Int) = m + 2 * (j : Int) + 2 := by omega
        rw [e]
        exact o2)
  rw [rangeD_length] at l1 l2
  have el : ((ls.length : Int) - 0).toNat = ls.length := by omega
  rw [el] at l1 l2
  have z : ls' = [] := List.eq_nil_of_length_eq_zero (by omega)
  subst z
  refine ⟨os, env', h', _, ?_, sh', g7', o'⟩
  unfold Q11
  have hit : evEs (callF fns (k + 1)) [(.bi .len [(.var 6)])] env h = some (.vals [.d (.int (ls.length : Nat))], h) := by
    generalize (ls.length : Int) = L at bl
    simp only [evE, evEs, consA, bndA, g6, vw, bl]
  rw [evS, hit]
  simp only [sBA]
  rw [src_r1 (rok (by omega) (by omega) (by omega) (by omega))]
  exact e
theorem q10_ok {k : Nat} {X : Ob} {n : Nat} {h : Hq} {m : Int} {env : Env} (sh : Sh env) (hx : h[0]? = some X) (n0 : n ≠ 0) (d : Dice h n m) (hm : m < 100000) (g3 : env[3]? = some (some (.ref n))) : ∃ (N : Nat) (q : Nat) (ls : List Int) (env' : Env) (h' : Hq), N ≤ 30 ∧ evS (callF fns (k + 1)) Q10 env h = some (.nx env', h') ∧ Sh env' ∧ env'[3]? = some (some (.ref n)) ∧ env'[6]? = some (some (.ref q)) ∧ env'[7]? = some (some (.d (.tuple []))) ∧ Ord X n q h' (m + 1) [] ls N := by
  obtain ⟨v, h1, v1, v2, e1, l1, d1, o1⟩ := roll_ok (k := k) g17 d (by omega) (t := 31) (by omega) (by omega)
  obtain ⟨N, rfl⟩ := nat_of v1
  have hl : 0 < h.length := lt_of_get hx
  have hn : n < h1.length := by
    obtain ⟨a, b, c, z, _⟩ := d1.ex
    exact lt_of_get z
  have hR : rangeD 0 (N : Nat) = ((List.range N).map fun i : Nat => (i : Int)).map PyData.int := by
    unfold rangeD
    rw [List.map_map]
    have : ((N : Int) - 0).toNat = N := by omega
    rw [this]
    apply List.map_congr_left
    intro i hi
    simp
  have rk : rangeOk 0 (N : Nat) = true := rok (by omega) (by omega) (by omega) (by omega)
  refine ⟨N, h1.length, (List.range N).map fun i : Nat => (i : Int), (env.set 6 (some (.ref h1.length))).set 7 (some (.d (.tuple []))), h1 ++ [.lst (((List.range N).map fun i : Nat => (i : Int)).map PyData.int)], by omega, ?_, (sh.set (by decide)).set (by decide), ?_, ?_, ?_, ⟨?_, n0, by omega, by omega, ?_, by simp, by simp⟩⟩
  · unfold Q10
    have hz : evEs (callF fns (k + 1)) [(.nlistR [(.call 17 [(.var 3), (.con (.int 31))])]), (.tup [])] env h = some (.vals [.ref h1.length, .d (.tuple [])], h1 ++ [.lst (((List.range N).map fun i : Nat => (i : Int)).map PyData.int)]) := by
      have h0 : ([] : List D).length ≤ line := by unfold line; simp
      have sr : semI .range [.int (N : Nat)] = some (rangeD 0 (N : Nat)) := by simp only [semI, if_pos rk]
      rw [← hR]
      generalize rangeD 0 (N : Nat) = RR0 at sr ⊢
      generalize (N : Int) = NN at e1 sr
      simp only [evEs, evE, consA, bndA, g3, e1, pureL, sr, if_pos h0]
    rw [evS, hz]
    simp only [sBA, setAll]
    rw [if_pos (by unfold line; simp)]
  · rw [List.getElem?_set_ne (by decide), List.getElem?_set_ne (by decide)]
    exact g3
  · rw [List.getElem?_set_ne (by decide)]
    exact List.getElem?_set_self (by rw [sh.1]; decide)
  · exact List.getElem?_set_self (by rw [List.length_set, sh.1]; decide)
  · rw [List.getElem?_append_left (by omega), o1 0 (Ne.symm n0)]
    exact hx
  · obtain ⟨a, b, c, z, r⟩ := d1.ex
    exact ⟨a, b, c, by rw [List.getElem?_append_left hn]; exact z, r⟩
end Ev
end

section
set_option Elab.async false
set_option linter.all false
set_option maxRecDepth 100000
set_option autoImplicit false
set_option maxHeartbeats 0
namespace Ev
open PySem
/-! who gets the own coat -/
theorem g2 : fns[2]? = some f_is_tuple := by kernel_rfl
theorem g3' : fns[3]? = some f_are_in := by kernel_rfl
theorem g4' : fns[4]? = some f_is_order := by kernel_rfl
theorem g13 : fns[13]? = some f_right_ones := by kernel_rfl
theorem b_tup {xs : List D} : semB .len [.tuple xs] = some (.int xs.length) := rfl
theorem istup_eq {k : Nat} {xs : List D} {a b : Int} {h : Hq} (h1 : a ≤ xs.length) (h2 : (xs.length : Int) ≤ b) : callF fns (k + 1) 2 [.d (.tuple xs), .d (.int a), .d (.int b)] h = some (.val (.d (.bool true)), h) := by
  rw [fn_at g2 (by rfl)]
  have e : evSs (callF fns k) f_is_tuple.body [some (.d (.tuple xs)), some (.d (.int a)), some (.d (.int b))] h = some (.ret (.d (.bool true)), h) := by
    have b1 : semB .isTup [.tuple xs] = some (.bool true) := rfl
    have bl := b_tup (xs := xs)
    generalize (xs.length : Int) = L at bl h1 h2
    simp only [f_is_tuple, evSs, evS, evE, evEs, consA, bnd, bndA, sB, List.getElem?_cons_zero, List.getElem?_cons_succ, vw_d, b1, bl, o_ar, s_le, decide_eq_true h1, decide_eq_true h2]
  rw [show startE f_is_tuple.names [Val.d (.tuple xs), .d (.int a), .d (.int b)] = [some (.d (.tuple xs)), some (.d (.int a)), some (.d (.int b))] from rfl, e]
  exact end_d
theorem bools_true : ∀ xs : List D, boolsOf (xs.map fun _ => PyData.bool true) = some (xs.map fun _ => true)
  | [] => rfl
  | x :: r => by simp only [List.map_cons, boolsOf, bools_true r]
theorem b_all {xs : List D} : semB .all [.list (xs.map fun _ => PyData.bool true)] = some (.bool true) := by
  show (match boolsOf (xs.map fun _ => PyData.bool true) with
    | some bs => some (PyData.bool (bs.all id))
    | none => none) = _
  rw [bools_true]
  simp
theorem it_t {xs : List D} : itemsOf (.tuple xs) = some xs := rfl
theorem arein_eq {k : Nat} {os : List Int} {a b lo hi : Int} {h : Hq} (h1 : a ≤ os.length) (h2 : (os.length : Int) ≤ b) (h3 : ∀ x ∈ os, lo ≤ x ∧ x ≤ hi) : callF fns (k + 1 + 1) 3 [.d (.tuple (os.map PyData.int)), .d (.int a), .d (.int b), .d (.int lo), .d (.int hi)] h = some (.val (.d (.bool true)), h) := by
  rw [fn_at g3' (by rfl)]
  have e : evSs (callF fns (k + 1)) f_are_in.body [some (.d (.tuple (os.map PyData.int))), some (.d (.int a)), some (.d (.int b)), some (.d (.int lo)), some (.d (.int hi)), none] h = some (.ret (.d (.bool true)), h) := by
    have e1 := istup_eq (k := k) (xs := os.map PyData.int) (a := a) (b := b) (h := h) (by simpa using h1) (by simpa using h2)
    have ec := comp_map (k := .seq) (l := (os.map PyData.int).length) (t := .nm 5) (F := callF fns (k + 1)) (elt := evE (callF fns (k + 1)) (.call 1 [(.var 5), (.var 3), (.var 4)])) (env := [some (.d (.tuple (os.map PyData.int))), some (.d (.int a)), some (.d (.int b)), some (.d (.int lo)), some (.d (.int hi)), none]) (h := h) (g := fun _ => .bool true) (os.map PyData.int) 0 [] (fun x hx => by
      obtain ⟨i, hi', rfl⟩ := List.mem_map.mp hx
      obtain ⟨q1, q2⟩ := h3 i hi'
      refine ⟨_, rfl, ?_⟩
      simp only [evE, evEs, consA, bndA, List.set_cons_succ, List.set_cons_zero, List.getElem?_cons_zero, List.getElem?_cons_succ, isin_t q1 q2])
    rw [List.nil_append] at ec
    have ba := b_all (xs := os.map PyData.int)
    generalize (os.map PyData.int).map (fun _ => PyData.bool true) = bs at ec ba
    have ecomp : evE (callF fns (k + 1)) (.comp (.call 1 [(.var 5), (.var 3), (.var 4)]) (.nm 5) .seq [(.var 0)] [] [5]) [some (.d (.tuple (os.map PyData.int))), some (.d (.int a)), some (.d (.int b)), some (.d (.int lo)), some (.d (.int hi)), none] h = some (.val (.d (.list bs)), h) := by
      rw [evE, evEs, evE]
      simp only [List.getElem?_cons_zero, consA, evEs, bndA, srcOf, pureL, semI, it_t, wipeE, List.set_cons_succ, List.set_cons_zero]
      rw [ec]
    unfold f_are_in
    rw [evSs, evS, evE]
    have e2 : evE (callF fns (k + 1)) (.call 2 [(.var 0), (.var 1), (.var 2)]) [some (.d (.tuple (os.map PyData.int))), some (.d (.int a)), some (.d (.int b)), some (.d (.int lo)), some (.d (.int hi)), none] h = some (.val (.d (.bool true)), h) := by
      simp only [evE, evEs, consA, bndA, List.getElem?_cons_zero, List.getElem?_cons_succ, e1]
    rw [e2]
    simp only [bnd]
    rw [evE, evEs, ecomp]
    simp only [consA, evEs, bndA, vw_d, ba, sB]
  rw [show startE f_are_in.names [Val.d (.tuple (os.map PyData.int)), .d (.int a), .d (.int b), .d (.int lo), .d (.int hi)] = [some (.d (.tuple (os.map PyData.int))), some (.d (.int a)), some (.d (.int b)), some (.d (.int lo)), some (.d (.int hi)), none] from rfl, e]
  exact end_d
theorem distinct_id : ∀ {l : List Int}, l.Nodup → distinct l = l
  | [], _ => rfl
  | x :: r, h => by
    obtain ⟨h1, h2⟩ := List.nodup_cons.mp h
    simp only [distinct, if_neg h1, distinct_id h2]
theorem b_lenset {os : List Int} (hd : os.Nodup) (hl : os.length ≤ 1000) : semB .lenset [.tuple (os.map PyData.int)] = some (.int (os.length : Nat)) := by
  show (match intsOf (os.map PyData.int) with
    | some ns => if ns.length ≤ 1000 then some (PyData.int (distinct ns).length) else none
    | none => none) = _
  rw [ints_map]
  dsimp only
  rw [if_pos hl, distinct_id hd]
theorem isorder_eq {k : Nat} {os : List Int} {h : Hq} (hd : os.Nodup) (hl : os.length ≤ 30) (h3 : ∀ x ∈ os, 0 ≤ x ∧ x ≤ (os.length : Int) - 1) : callF fns (k + 1 + 1 + 1) 4 [.d (.tuple (os.map PyData.int)), .d (.int (os.length : Nat))] h = some (.val (.d (.bool true)), h) := by
  rw [fn_at g4' (by rfl)]
  have e : evSs (callF fns (k + 1 + 1)) f_is_order.body [some (.d (.tuple (os.map PyData.int))), some (.d (.int (os.length : Nat)))] h = some (.ret (.d (.bool true)), h) := by
    have e1 := arein_eq (k := k) (os := os) (a := (os.length : Nat)) (b := (os.length : Nat)) (lo := 0) (hi := (os.length : Int) - 1) (h := h) (Int.le_refl _) (Int.le_refl _) h3
    have b1 := b_lenset hd (by omega)
    generalize (os.length : Int) = L at e1 b1
    generalize os.map PyData.int = xs at e1 b1
    have d1 : decide (L = L) = true := decide_eq_true rfl
    have d2 : sem2 .eq (.int L) (.int L) = some (.bool true) := by rw [s_eq, d1]
    simp only [f_is_order, evSs, evS, evE, evEs, consA, bnd, bndA, sB, List.getElem?_cons_zero, List.getElem?_cons_succ, vw_d, o_ar, s_sub, e1, b1, d2]
  rw [show startE f_is_order.names [Val.d (.tuple (os.map PyData.int)), .d (.int (os.length : Nat))] = [some (.d (.tuple (os.map PyData.int))), some (.d (.int (os.length : Nat)))] from rfl, e]
  exact end_d
/-- those who get their own, from a place on -/
def ownL : Int → List Int → List Int
  | _, [] => []
  | i, x :: r => if i = x then i :: ownL (i + 1) r else ownL (i + 1) r
def pE (x : D) : Bool := match x with
  | .tuple [.int i, .int c] => decide (i = c)
  | _ => false
def gE (x : D) : D := match x with
  | .tuple [.int i, .int _] => .int i
  | _ => .none
theorem own_enum : ∀ (os : List Int) (k : Nat), ((enumD k (os.map PyData.int)).filter pE).map gE = (ownL (k : Nat) os).map PyData.int
  | [], k => rfl
  | x :: r, k => by
    have ih := own_enum r (k + 1)
    have e : ((k + 1 : Nat) : Int) = (k : Int) + 1 := by omega
    rw [e] at ih
    simp only [List.map_cons, enumD, List.filter_cons, ownL]
    by_cases hx : (k : Int) = x
    · have hp : pE (.tuple [.int (k : Nat), .int x]) = true := decide_eq_true hx
      rw [if_pos hp, if_pos hx, List.map_cons, List.map_cons, ih]
      rfl
    · have hp : pE (.tuple [.int (k : Nat), .int x]) = false := decide_eq_false hx
      rw [if_neg (by rw [hp]; decide), if_neg hx, ih]
def pR (os : List Int) (x : D) : Bool := match x with
  | .int i => decide (os[i.toNat]? = some i)
  | _ => false
theorem own_range (w : List Int) : ∀ (os : List Int) (k : Nat), w.drop k = os → (((List.range os.length).map fun i : Nat => PyData.int ((k : Int) + (i : Int))).filter (pR w)).map id = (ownL (k : Nat) os).map PyData.int
  | [], k, _ => rfl
  | x :: r, k, hw => by
    have hx : w[k]? = some x := by
      have := congrArg (fun l : List Int => l[0]?) hw
      simpa using this
    have hr : w.drop (k + 1) = r := by
      have := congrArg List.tail hw
      simpa using this
    have ih := own_range w r (k + 1) hr
    have e : ((k + 1 : Nat) : Int) = (k : Int) + 1 := by omega
    rw [e] at ih
    have el : ((List.range (x :: r).length).map fun i : Nat => PyData.int ((k : Int) + (i : Int))) = PyData.int (k : Nat) :: ((List.range r.length).map fun i : Nat => PyData.int ((k : Int) + 1 + (i : Int))) := by
      rw [List.length_cons, List.range_succ_eq_map, List.map_cons, List.map_map]
      refine List.cons_eq_cons.mpr ⟨by simp, ?_⟩
      apply List.map_congr_left
      intro i _
      show PyData.int ((k : Int) + ((i + 1 : Nat) : Int)) = PyData.int ((k : Int) + 1 + (i : Int))
      congr 1
      omega
    rw [el]
    simp only [List.filter_cons, ownL]
    have hk : ((k : Int)).toNat = k := by omega
    by_cases hkx : (k : Int) = x
    · have hp : pR w (.int (k : Nat)) = true := by
        simp only [pR, hk, hx]
        exact decide_eq_true (by rw [hkx])
      rw [if_pos hp, if_pos hkx, List.map_cons, List.map_cons, ih]
      rfl
    · have hp : pR w (.int (k : Nat)) = false := by
        simp only [pR, hk, hx]
        exact decide_eq_false (fun z => hkx (Option.some.inj z).symm)
      rw [if_neg (by rw [hp]; decide), if_neg hkx, ih]
theorem own_le : ∀ (i : Int) (os : List Int), (ownL i os).length ≤ os.length
  | _, [] => Nat.le_refl _
  | i, x :: r => by
    have := own_le (i + 1) r
    simp only [ownL]
    split
    · simp only [List.length_cons]
      omega
    · simp only [List.length_cons]
      omega
theorem enumD_int : ∀ (os : List Int) (k : Nat) (x : D), x ∈ enumD k (os.map PyData.int) → ∃ i c : Int, x = .tuple [.int i, .int c]
  | [], _, x, h => by cases h
  | y :: r, k, x, h => by
    simp only [List.map_cons, enumD, List.mem_cons] at h
    rcases h with rfl | h
    · exact ⟨_, _, rfl⟩
    · exact enumD_int r (k + 1) x h
theorem b_tuple {xs : List D} : semB .tuple [.list xs] = some (.tuple xs) := rfl
theorem right_eq {k : Nat} {os : List Int} {h : Hq} (hd : os.Nodup) (hl : os.length ≤ 30) (h3 : ∀ x ∈ os, 0 ≤ x ∧ x ≤ (os.length : Int) - 1) : callF fns (k + 1 + 1 + 1 + 1) 13 [.d (.tuple (os.map PyData.int))] h = some (.val (.d (.tuple ((ownL 0 os).map PyData.int))), h) := by
  rw [fn_at g13 (by rfl)]
  have e : evSs (callF fns (k + 1 + 1 + 1)) f_right_ones.body [some (.d (.tuple (os.map PyData.int))), none, none] h = some (.ret (.d (.tuple ((ownL 0 os).map PyData.int))), h) := by
    have e1 := isorder_eq (k := k) (h := h) hd hl h3
    have bl : semB .len [.tuple (os.map PyData.int)] = some (.int (os.length : Nat)) := by rw [b_tup, List.length_map]
    have b1 : semB .isTup [.tuple (os.map PyData.int)] = some (.bool true) := rfl
    have d1 : decide ((os.length : Int) ≤ 30) = true := decide_eq_true (by omega)
    have ec := comp_filter (k := .enum) (l := (enumD 0 (os.map PyData.int)).length) (t := .tup [.nm 1, .nm 2]) (cond := evTs (callF fns (k + 1 + 1 + 1)) [.bin .eq (.var 1) (.var 2)]) (elt := evE (callF fns (k + 1 + 1 + 1)) (.var 1)) (env := [some (.d (.tuple (os.map PyData.int))), none, none]) (h := h) (p := pE) (g := gE) (enumD 0 (os.map PyData.int)) 0 [] (fun x hx => by
      obtain ⟨i, c, rfl⟩ := enumD_int os 0 x hx
      refine ⟨[some (.d (.tuple (os.map PyData.int))), some (.d (.int i)), some (.d (.int c))], rfl, ?_, fun _ => ?_⟩
      · simp only [evTs, evE, bnd, List.getElem?_cons_zero, List.getElem?_cons_succ, o_ar, s_eq, pE]
      · simp only [evE, List.getElem?_cons_zero, List.getElem?_cons_succ, gE])
    rw [List.nil_append, own_enum os 0] at ec
    have eo : (ownL ((0 : Nat) : Int) os) = ownL 0 os := rfl
    rw [eo] at ec
    generalize (ownL 0 os).map PyData.int = res at ec ⊢
    generalize (os.length : Int) = L at e1 bl d1
    generalize os.map PyData.int = xs at *
    have ecomp : evE (callF fns (k + 1 + 1 + 1)) (.comp (.var 1) (.tup [(.nm 1), (.nm 2)]) .enum [(.var 0)] [(.bin .eq (.var 1) (.var 2))] [1, 2]) [some (.d (.tuple xs)), none, none] h = some (.val (.d (.list res)), h) := by
      rw [evE, evEs, evE]
      simp only [List.getElem?_cons_zero, consA, evEs, bndA, srcOf, pureL, semI, it_t, wipeE, List.set_cons_succ, List.set_cons_zero]
      rw [ec]
    unfold f_right_ones
    have edem : evS (callF fns (k + 1 + 1 + 1)) (.expr (.call 0 [(.and_ (.bi .isTup [(.var 0)]) (.and_ (.bin .le (.bi .len [(.var 0)]) (.glob (Str.ofString "MOST_LOTS") (.int 30))) (.call 4 [(.var 0), (.bi .len [(.var 0)])]))), (.con (.str (Str.ofString "order")))])) [some (.d (.tuple xs)), none, none] h = some (.nx [some (.d (.tuple xs)), none, none], h) := by
      simp only [evS, evE, evEs, consA, bnd, bndA, sB, List.getElem?_cons_zero, List.getElem?_cons_succ, vw_d, b1, bl, o_ar, s_le, d1, e1, demand_t]
    rw [cons_nx edem, evSs, evS, evE, evEs, ecomp]
    simp only [consA, evEs, bndA, vw_d, b_tuple, sB]
  rw [show startE f_right_ones.names [Val.d (.tuple (os.map PyData.int))] = [some (.d (.tuple (os.map PyData.int))), none, none] from rfl, e]
  exact end_d
theorem perm_facts {os : List Int} {N : Nat} (p : os.Perm ((List.range N).map fun i : Nat => (i : Int))) : os.Nodup ∧ os.length = N ∧ ∀ x ∈ os, 0 ≤ x ∧ x ≤ (os.length : Int) - 1 := by
  have hl : os.length = N := by
    have := p.length_eq
    simpa using this
  refine ⟨?_, hl, fun x hx => ?_⟩
  · refine p.nodup_iff.mpr ?_
    rw [List.nodup_iff_pairwise_ne, List.pairwise_map]
    refine List.Pairwise.imp ?_ List.pairwise_lt_range
    intro a b hab
    omega
  · obtain ⟨n, hn, rfl⟩ := List.mem_map.mp (p.mem_iff.mp hx)
    have := List.mem_range.mp hn
    omega
theorem q12_ok {k : Nat} {os : List Int} {env : Env} {h : Hq} (sh : Sh env) (g7 : env[7]? = some (some (.d (.tuple (os.map PyData.int))))) (hd : os.Nodup) (hl : os.length ≤ 30) (h3 : ∀ x ∈ os, 0 ≤ x ∧ x ≤ (os.length : Int) - 1) : evS (callF fns (k + 1 + 1 + 1 + 1)) Q12 env h = some (.nx env, h) := by
  have e1 := right_eq (k := k) (h := h) hd hl h3
  have bl : semB .len [.tuple (os.map PyData.int)] = some (.int (os.length : Nat)) := by rw [b_tup, List.length_map]
  have sr := src_r1 (h := h) (rok (a := 0) (b := (os.length : Nat)) (by omega) (by omega) (by omega) (by omega))
  have hrd : rangeD 0 (os.length : Nat) = (List.range os.length).map fun i : Nat => PyData.int (((0 : Nat) : Int) + (i : Int)) := by
    unfold rangeD
    have : ((os.length : Int) - 0).toNat = os.length := by omega
    rw [this]
    rfl
  have ec := comp_filter (k := .range) (l := (rangeD 0 (os.length : Nat)).length) (t := .nm 9) (cond := evTs (callF fns (k + 1 + 1 + 1 + 1)) [.bin .eq (.idx (.var 7) (.var 9)) (.var 9)]) (elt := evE (callF fns (k + 1 + 1 + 1 + 1)) (.var 9)) (env := env.set 9 none) (h := h) (p := pR os) (g := id) (rangeD 0 (os.length : Nat)) 0 [] (fun x hx => by
    obtain ⟨i, rfl, i1, i2⟩ := mem_range hx
    obtain ⟨n, rfl⟩ := nat_of i1
    have hn : n < os.length := by omega
    have q7 : ((env.set 9 none).set 9 (some (.d (.int (n : Nat)))))[7]? = some (some (.d (.tuple (os.map PyData.int)))) := by rw [List.getElem?_set_ne (by decide), List.getElem?_set_ne (by decide)]; exact g7
    have q9 : ((env.set 9 none).set 9 (some (.d (.int (n : Nat)))))[9]? = some (some (.d (.int (n : Nat)))) := List.getElem?_set_self (by rw [List.length_set, sh.1]; decide)
    have ha := at_map hn
    have vt : viewV h (.d (.tuple (os.map PyData.int))) = some (.tuple (os.map PyData.int)) := rfl
    have hp : pR os (.int (n : Nat)) = decide (os[n] = (n : Int)) := by
      have : ((n : Int)).toNat = n := by omega
      simp only [pR, this, List.getElem?_eq_getElem hn]
      simp
    refine ⟨(env.set 9 none).set 9 (some (.d (.int (n : Nat)))), rfl, ?_, fun _ => ?_⟩
    · rw [hp]
      generalize os[n] = c at ha ⊢
      generalize os.map PyData.int = xs at *
      generalize (n : Int) = nn at *
      simp only [evTs, evE, bnd, q7, q9, vt, it_t, ha, o_ar, s_eq]
    · simp only [evE, q9, id])
  rw [List.nil_append, hrd, own_range os os 0 rfl] at ec
  have eo : (ownL ((0 : Nat) : Int) os) = ownL 0 os := rfl
  rw [eo, ← hrd] at ec
  have hne := ne_ints (l := ownL 0 os)
  generalize (ownL 0 os).map PyData.int = res at ec e1 hne
  refine if_skip (ne_f (x := .tuple res) ?_ ?_ hne)
  · simp only [evE, evEs, consA, bndA, g7, permV, List.nil_append, List.getElem?_cons_zero, e1]
  · have ecomp : evE (callF fns (k + 1 + 1 + 1 + 1)) (.comp (.var 9) (.nm 9) .range [(.bi .len [(.var 7)])] [(.bin .eq (.idx (.var 7) (.var 9)) (.var 9))] [9]) env h = some (.val (.d (.list res)), h) := by
      have hit : evEs (callF fns (k + 1 + 1 + 1 + 1)) [(.bi .len [(.var 7)])] env h = some (.vals [.d (.int (os.length : Nat))], h) := by
        generalize (os.length : Int) = L at bl
        simp only [evE, evEs, consA, bndA, g7, vw_d, bl]
      rw [evE, hit]
      simp only [bndA]
      rw [sr]
      simp only [wipeE]
      rw [ec]
    rw [evE, evEs, ecomp]
    simp only [consA, evEs, bndA, vw_d, b_tuple]
end Ev
end

section
set_option Elab.async false
set_option linter.all false
set_option maxRecDepth 100000
set_option autoImplicit false
set_option maxHeartbeats 0
namespace Ev
open PySem
/-! one turn of the law's loop -/
abbrev F5 : CallS := callF fns (1 + 1 + 1 + 1 + 1)
theorem sum_eq {m : Nat} (a : Nat) (ha : a ≤ m) : ((List.range (((m : Int) + 1) - (a : Int)).toNat).map fun i : Nat => jst m ((a : Int) + (i : Int)).toNat).sum = leastS m a := by
  have : (((m : Int) + 1) - (a : Int)).toNat = m + 1 - a := by omega
  rw [this]
  unfold leastS
  refine sum_congr fun i hi => ?_
  have : ((a : Int) + (i : Int)).toNat = a + i := by omega
  rw [this]
theorem sum_eq0 {m : Nat} : ((List.range (((m : Int) + 1) - 0).toNat).map fun i : Nat => jst m (0 + (i : Int)).toNat).sum = leastS m 0 := by
  have : (((m : Int) + 1) - 0).toNat = m + 1 - 0 := by omega
  rw [this]
  unfold leastS
  refine sum_congr fun i hi => ?_
  have : (0 + (i : Int)).toNat = 0 + i := by omega
  rw [this]
theorem asg_d {F : CallS} {i : Nat} {e : E} {x : D} {env : Env} {h h1 : Hq} (q : evE F e env h = some (.val (.d x), h1)) : evS F (.asg (.nm i) e) env h = some (.nx (env.set i (some (.d x))), h1) := by simp only [evS, sB, q, asgV, asgT]
theorem asg_r {F : CallS} {i n : Nat} {e : E} {env : Env} {h h1 : Hq} (q : evE F e env h = some (.val (.ref n), h1)) : evS F (.asg (.nm i) e) env h = some (.nx (env.set i (some (.ref n))), h1) := by simp only [evS, sB, q, asgV]
theorem turn_ok {b : Bool} {ns : List Int} {spot : Nat} {env : Env} {h : Hq} (sh : Sh env) (g2 : env[2]? = some (some (.d (.int (spot : Nat))))) (hX : h[0]? = some (.ro b (ns.map PyData.int))) (hl : ns.length ≤ 63) (hs : spot < 1000) :
    ∃ env' h', evSs F5 lawTurn env h = some (.nx env', h') ∧ Sh env' ∧ h'[0]? = some (.ro b (ns.map PyData.int)) := by
  have hh : 0 < h.length := lt_of_get hX
  -- the dice
  obtain ⟨h1, e1, l1, d1, o1⟩ := dice_ok (k := 1 + 1 + 1 + 1) g16 hX hl hs
  have x1 : h1[0]? = some (.ro b (ns.map PyData.int)) := by rw [o1 0 hh]; exact hX
  have n0 : h.length ≠ 0 := by omega
  generalize h.length = n at *
  have s0 : evS F5 Q0 env h = some (.nx (env.set 3 (some (.ref n))), h1) := asg_r (by
    have a0 := sh.2
    simp only [evE, evEs, consA, bndA, a0, g2, e1])
  have sh1 := sh.set (i := 3) (v := some (.ref n)) (by decide)
  have g3 : (env.set 3 (some (.ref n)))[3]? = some (some (.ref n)) := List.getElem?_set_self (by rw [sh.1]; decide)
  generalize env.set 3 (some (.ref n)) = env1 at *
  -- many
  obtain ⟨v, h2, v1, v2, e2, l2, d2, o2⟩ := roll_ok (k := 1 + 1 + 1 + 1) g17 d1 (by omega) (t := 29) (by omega) (by omega)
  obtain ⟨w, rfl⟩ := nat_of v1
  have x2 : h2[0]? = some (.ro b (ns.map PyData.int)) := by rw [o2 0 (Ne.symm n0)]; exact x1
  have s1 : evS F5 Q1 env1 h1 = some (.nx (env1.set 1 (some (.d (.int (2 + (w : Int)))))), h2) := asg_d (by
    simp only [evE, evEs, consA, bnd, bndA, g3, e2, o_ar, s_add])
  have ew : 2 + (w : Int) = ((w + 2 : Nat) : Int) := by omega
  rw [ew] at s1
  obtain ⟨m, hm⟩ : ∃ m, m = w + 2 := ⟨_, rfl⟩
  have m2 : 2 ≤ m := by omega
  have m30 : m < 31 := by omega
  rw [← hm] at s1
  have sh2 := sh1.set (i := 1) (v := some (.d (.int (m : Nat)))) (by decide)
  have g1' : (env1.set 1 (some (.d (.int (m : Nat)))))[1]? = some (some (.d (.int (m : Nat)))) := List.getElem?_set_self (by rw [sh1.1]; decide)
  have g3' : (env1.set 1 (some (.d (.int (m : Nat)))))[3]? = some (some (.ref n)) := by rw [List.getElem?_set_ne (by decide)]; exact g3
  generalize env1.set 1 (some (.d (.int (m : Nat)))) = env2 at *
  have i1 : ((m : Int) - 1) = ((m - 1 : Nat) : Int) := by omega
  have i2 : ((m : Int) - 2) = ((m - 2 : Nat) : Int) := by omega
  -- nobody
  have p1 := P1 (m - 2) (by omega)
  have s2 : evS F5 Q2 env2 h2 = some (.nx env2, h2) := by
    have a0 := nobody_eq (k := 1 + 1 + 1) (h := h2) m30
    have a1 : callF fns (1 + 1 + 1 + 1 + 1) 8 [.d (.int ((m : Int) - 1))] h2 = some (.val (.d (.int (nob (m - 1)))), h2) := by rw [i1]; exact nobody_eq (k := 1 + 1 + 1) (by omega)
    have a2 : callF fns (1 + 1 + 1 + 1 + 1) 8 [.d (.int ((m : Int) - 2))] h2 = some (.val (.d (.int (nob (m - 2)))), h2) := by rw [i2]; exact nobody_eq (k := 1 + 1 + 1) (by omega)
    rw [show m - 2 + 2 = m by omega, show m - 2 + 1 = m - 1 by omega] at p1
    exact c2_ok g1' a0 a1 a2 (mul_small' (by omega) (by omega)) p1
  -- all counts, the mean
  have s3 : evS F5 Q3 env2 h2 = some (.nx env2, h2) := by
    have q := sum_just (k := 1 + 1) (mm := m) (rr := 0) (s := 4) (env := env2) (h := h2) (its := [(.bin .add (.var 1) (.con (.int 1)))]) (vs := [.d (.int ((m : Int) + 1))]) (a := 0) (b := (m : Int) + 1) m30 (by rw [List.getElem?_set_ne (by decide)]; exact g1') (by decide) (by rw [sh2.1]; decide) (by simp only [evEs, evE, consA, bnd, g1', o_ar, s_add]) (src_r1 (rok (by omega) (by omega) (by omega) (by omega))) (by omega) (by omega)
    rw [sum_eq0 (m := m), P2 m m30] at q
    have mb := P2b (m - 1) (by omega)
    rw [show m - 1 + 1 = m by omega] at mb
    exact c3_ok g1' q (lawall_eq (k := 1 + 1 + 1 + 1) (by omega)) (mean_eq (k := 1 + 1) m30 mb)
  -- right
  obtain ⟨v, h3, v1, v2, e3, l3, d3, o3⟩ := roll_ok (k := 1 + 1 + 1 + 1) g17 d2 (by omega) (t := (m : Nat)) (by omega) (by omega)
  obtain ⟨r, rfl⟩ := nat_of v1
  have hr : r < m := by omega
  have x3 : h3[0]? = some (.ro b (ns.map PyData.int)) := by rw [o3 0 (Ne.symm n0)]; exact x2
  have s4 : evS F5 Q4 env2 h2 = some (.nx (env2.set 4 (some (.d (.int (r : Nat))))), h3) := asg_d (by
    simp only [evE, evEs, consA, bndA, g1', g3', e3])
  have sh3 := sh2.set (i := 4) (v := some (.d (.int (r : Nat)))) (by decide)
  have k1 : (env2.set 4 (some (.d (.int (r : Nat)))))[1]? = some (some (.d (.int (m : Nat)))) := by rw [List.getElem?_set_ne (by decide)]; exact g1'
  have k3 : (env2.set 4 (some (.d (.int (r : Nat)))))[3]? = some (some (.ref n)) := by rw [List.getElem?_set_ne (by decide)]; exact g3'
  have k4 : (env2.set 4 (some (.d (.int (r : Nat)))))[4]? = some (some (.d (.int (r : Nat)))) := List.getElem?_set_self (by rw [sh2.1]; decide)
  generalize env2.set 4 (some (.d (.int (r : Nat)))) = env3 at *
  have ir : ((r : Int) + 1) = ((r + 1 : Nat) : Int) := by omega
  have s5 : evS F5 Q5 env3 h3 = some (.nx env3, h3) := by
    have a1 : callF fns (1 + 1 + 1 + 1 + 1) 10 [.d (.int (m : Nat)), .d (.int ((r : Int) + 1))] h3 = some (.val (.d (.int (jst m (r + 1)))), h3) := by rw [ir]; exact just_eq (k := 1 + 1) (by omega) m30
    have a2 : callF fns (1 + 1 + 1 + 1 + 1) 10 [.d (.int ((m : Int) - 1)), .d (.int (r : Nat))] h3 = some (.val (.d (.int (jst (m - 1) r))), h3) := by rw [i1]; exact just_eq (k := 1 + 1) (by omega) (by omega)
    exact c5_ok k1 k4 a1 a2 (mul_small' (by omega) (by omega)) (mul_small' (by omega) (by omega)) (P3 m m30 r hr)
  have s6 : evS F5 Q6 env3 h3 = some (.nx env3, h3) := by
    obtain ⟨x, y, y1, y2⟩ := good_of (P4 m m30 r (by omega))
    exact c6_ok k1 k4 (chance_eq (k := 1) (by omega) m30 y1) (just_eq (k := 1 + 1) (by omega) m30) (lawall_eq (k := 1 + 1 + 1 + 1) (by omega)) (same_eq (k := 1 + 1 + 1 + 1) y2)
  have s7 : evS F5 Q7 env3 h3 = some (.nx env3, h3) := by
    obtain ⟨x, y, y1, y2⟩ := good_of (P5 m m30 r (by omega))
    have q := sum_just (k := 1 + 1) (mm := m) (rr := 0) (s := 10) (env := env3) (h := h3) (its := [(.var 4), (.bin .add (.var 1) (.con (.int 1)))]) (vs := [.d (.int (r : Nat)), .d (.int ((m : Int) + 1))]) (a := (r : Nat)) (b := (m : Int) + 1) m30 (by rw [List.getElem?_set_ne (by decide)]; exact k1) (by decide) (by rw [sh3.1]; decide) (by simp only [evEs, evE, consA, bnd, k1, k4, o_ar, s_add]) (src_r2 (rok (by omega) (by omega) (by omega) (by omega))) (by omega) (by omega)
    rw [sum_eq r (by omega)] at q
    exact c7_ok k1 k4 (least_eq (k := 1 + 1) m30 (by omega) y1) q (lawall_eq (k := 1 + 1 + 1 + 1) (by omega)) (same_eq (k := 1 + 1 + 1 + 1) y2)
  -- told
  obtain ⟨v, h4, v1, v2, e4, l4, d4, o4⟩ := roll_ok (k := 1 + 1 + 1 + 1) g17 d3 (by omega) (t := (r : Int) + 1) (by omega) (by omega)
  obtain ⟨t, rfl⟩ := nat_of v1
  have ht : t ≤ r := by omega
  have x4 : h4[0]? = some (.ro b (ns.map PyData.int)) := by rw [o4 0 (Ne.symm n0)]; exact x3
  have s8 : evS F5 Q8 env3 h3 = some (.nx (env3.set 5 (some (.d (.int (t : Nat))))), h4) := asg_d (by
    simp only [evE, evEs, consA, bnd, bndA, k3, k4, o_ar, s_add, e4])
  have sh4 := sh3.set (i := 5) (v := some (.d (.int (t : Nat)))) (by decide)
  have j1 : (env3.set 5 (some (.d (.int (t : Nat)))))[1]? = some (some (.d (.int (m : Nat)))) := by rw [List.getElem?_set_ne (by decide)]; exact k1
  have j3 : (env3.set 5 (some (.d (.int (t : Nat)))))[3]? = some (some (.ref n)) := by rw [List.getElem?_set_ne (by decide)]; exact k3
  have j4 : (env3.set 5 (some (.d (.int (t : Nat)))))[4]? = some (some (.d (.int (r : Nat)))) := by rw [List.getElem?_set_ne (by decide)]; exact k4
  have j5 : (env3.set 5 (some (.d (.int (t : Nat)))))[5]? = some (some (.d (.int (t : Nat)))) := List.getElem?_set_self (by rw [sh3.1]; decide)
  generalize env3.set 5 (some (.d (.int (t : Nat)))) = env4 at *
  have s9 : evS F5 Q9 env4 h4 = some (.nx env4, h4) := by
    obtain ⟨x, y, y1, _⟩ := good_of (P4 (m - t) (by omega) (r - t) (by omega))
    have a2 : callF fns (1 + 1 + 1 + 1 + 1) 11 [.d (.int ((m : Int) - (t : Int))), .d (.int ((r : Int) - (t : Int)))] h4 = some (.val (.d (.tuple [.int x, .int y])), h4) := by rw [nat_sub (show t ≤ m by omega), nat_sub ht]; exact chance_eq (k := 1) (by omega) (by omega) y1
    have a3 : callF fns (1 + 1 + 1 + 1 + 1) 15 [.d (.int (m : Nat)), .d (.int ((r : Int) + 1)), .d (.int (r : Nat))] h4 = some (.val (.d (.tuple [.int 0, .int 1])), h4) := by rw [ir]; exact told0_eq (k := 1 + 1 + 1) m30 (by omega) (by omega)
    exact c9_ok j1 j4 j5 (told_eq (k := 1 + 1) m30 ht (by omega) y1) a2 a3
  -- the order
  obtain ⟨N, q, ls, env5, h5, hN, s10, sh5, f3, f6, f7, od⟩ := q10_ok (k := 1 + 1 + 1 + 1) sh4 x4 n0 d4 (by omega) j3
  obtain ⟨os, env6, h6, m', s11, sh6, f7', od'⟩ := q11_ok (k := 1 + 1 + 1 + 1) sh5 od (by omega) hN f3 f6 f7
  have pf := perm_facts (by simpa using od'.perm)
  have s12 := q12_ok (k := 1) (h := h6) sh6 f7' pf.1 (by rw [pf.2.1]; exact hN) pf.2.2
  refine ⟨env6, h6, ?_, sh6, od'.x⟩
  unfold lawTurn
  rw [cons_nx s0, cons_nx s1, cons_nx s2, cons_nx s3, cons_nx s4, cons_nx s5, cons_nx s6, cons_nx s7, cons_nx s8, cons_nx s9, cons_nx s10, cons_nx s11, cons_nx s12]
  simp only [evSs]
end Ev
end

section
set_option Elab.async false
set_option linter.all false
set_option maxRecDepth 100000
set_option autoImplicit false
set_option maxHeartbeats 0
namespace Ev
open PySem
theorem sr0 {X : Ob} : callF fns 5 23 [.d (.int 0)] [X] = some (.val (.d (.bool true)), [X]) := by kernel_rfl
theorem sr1 {X : Ob} : callF fns 5 23 [.d (.int 1)] [X] = some (.val (.d (.bool true)), [X]) := by kernel_rfl
theorem sr2 {X : Ob} : callF fns 5 23 [.d (.int 2)] [X] = some (.val (.d (.bool true)), [X]) := by kernel_rfl
theorem sr3 {X : Ob} : callF fns 5 23 [.d (.int 3)] [X] = some (.val (.d (.bool true)), [X]) := by kernel_rfl
end Ev
end

section
set_option Elab.async false
set_option linter.all false
set_option maxRecDepth 100000
set_option autoImplicit false
set_option maxHeartbeats 0
namespace Ev
open PySem
theorem sr4 {X : Ob} : callF fns 5 23 [.d (.int 4)] [X] = some (.val (.d (.bool true)), [X]) := by kernel_rfl
end Ev
end

section
set_option Elab.async false
set_option linter.all false
set_option maxRecDepth 100000
set_option autoImplicit false
set_option maxHeartbeats 0
namespace Ev
open PySem
theorem sr5 {X : Ob} : callF fns 5 23 [.d (.int 5)] [X] = some (.val (.d (.bool true)), [X]) := by kernel_rfl
end Ev
end

section
set_option Elab.async false
set_option linter.all false
set_option maxRecDepth 100000
set_option autoImplicit false
set_option maxHeartbeats 0
namespace Ev
open PySem
/-! the law's end: what is refused, and the last rows -/
theorem tail_ok {a1 a2 a3 a4 a5 a6 a7 a8 a9 a10 : Option Val} {h : Hq} : (evSs F5 [Z2, Z3, Z4] [some (.ref 0), a1, a2, a3, a4, a5, a6, a7, a8, a9, a10] h).map (·.1) = some (.ret (.d (.bool true))) := by kernel_rfl
end Ev
end

section
set_option Elab.async false
set_option linter.all false
set_option maxRecDepth 100000
set_option autoImplicit false
set_option maxHeartbeats 0
namespace Ev
open PySem
/-! the law, whole -/
theorem sr {X : Ob} : ∀ n : Nat, n < 6 → F5 23 [.d (.int (n : Nat))] [X] = some (.val (.d (.bool true)), [X])
  | 0, _ => sr0
  | 1, _ => sr1
  | 2, _ => sr2
  | 3, _ => sr3
  | 4, _ => sr4
  | 5, _ => sr5
  | n + 6, h => absurd h (by omega)
theorem z0_ok {X : Ob} {env : Env} (sh : Sh env) : ∃ env', evS F5 Z0 env [X] = some (.nx env', [X]) ∧ Sh env' := by
  obtain ⟨env', h', e, sh', hh⟩ := for_inv (k := .range) (src := none) (l := (rangeD 0 6).length) (t := .nm 1) (body := evSs F5 [.if_ (.un .not_ (.call 23 [(.var 1)])) [.ret (.con (.bool false))] []]) rfl
    (fun _ env h => Sh env ∧ h = [X]) (rangeD 0 6) 0 env [X] ⟨sh, rfl⟩ (fun j x env h hj p => by
      obtain ⟨s, rfl⟩ := p
      obtain ⟨hj2, rfl⟩ := rangeD_get hj
      have h6 : j < 6 := by omega
      have ez : (0 : Int) + (j : Int) = ((j : Nat) : Int) := by omega
      rw [ez]
      have g1 : (env.set 1 (some (.d (.int (j : Nat)))))[1]? = some (some (.d (.int (j : Nat)))) := List.getElem?_set_self (by rw [s.1]; decide)
      have q := sr (X := X) j h6
      refine ⟨_, env.set 1 (some (.d (.int (j : Nat)))), [X], rfl, ?_, s.set (by decide), rfl⟩
      generalize env.set 1 (some (.d (.int (j : Nat)))) = env1 at *
      have r : evS F5 (.if_ (.un .not_ (.call 23 [(.var 1)])) [.ret (.con (.bool false))] []) env1 [X] = some (.nx env1, [X]) := if_skip (not_t (by simp only [evE, evEs, consA, bndA, g1, q]))
      simp only [evSs, sB, r])
  subst hh
  refine ⟨env', ?_, sh'⟩
  unfold Z0
  rw [evS, show evEs F5 [(.con (.int 6))] env [X] = some (.vals [.d (.int 6)], [X]) by simp only [evEs, evE, consA, bndA]]
  simp only [sBA]
  rw [src_r1 (rok (by omega) (by omega) (by omega) (by omega))]
  exact e
theorem b_max {a b : Int} : semB .max [.int a, .int b] = some (.int (if b > a then b else a)) := rfl
theorem b_min {a b : Int} : semB .min [.int a, .int b] = some (.int (if b < a then b else a)) := rfl
theorem v_root {h : Hq} {b : Bool} {ns : List Int} (hX : h[0]? = some (.ro b (ns.map PyData.int))) : ∃ d, viewV h (.ref 0) = some d ∧ semB .len [d] = some (.int (ns.length : Nat)) := by
  refine ⟨.list (ns.map PyData.int), ?_, ?_⟩
  · simp only [viewV, hX]
  · rw [b_len, List.length_map]
theorem vl2 {h : Hq} {a b : D} : viewL h [.d a, .d b] = some [a, b] := rfl
theorem z1_ok {b : Bool} {ns : List Int} {env : Env} {h : Hq} (sh : Sh env) (hX : h[0]? = some (.ro b (ns.map PyData.int))) (hl : ns.length ≤ 63) : ∃ env' h', evS F5 Z1 env h = some (.nx env', h') ∧ Sh env' := by
  obtain ⟨d, vw, bl⟩ := v_root hX
  have g0 := sh.2
  obtain ⟨n, hn, hn8, hit⟩ : ∃ n : Nat, 0 ≤ n ∧ n ≤ 8 ∧ evEs F5 [(.bi .max [(.con (.int 1)), (.bi .min [(.con (.int 8)), (.bi .len [(.var 0)])])])] env h = some (.vals [.d (.int (n : Nat))], h) := by
    have vr := vw_ref vw
    obtain ⟨L, hL⟩ : ∃ L : Int, L = (ns.length : Int) := ⟨_, rfl⟩
    rw [← hL] at bl
    obtain ⟨M, hM⟩ : ∃ M : Int, M = (if L < 8 then L else 8) := ⟨_, rfl⟩
    obtain ⟨Q, hQ⟩ : ∃ Q : Int, Q = (if M > 1 then M else 1) := ⟨_, rfl⟩
    have bm : semB .min [.int 8, .int L] = some (.int M) := by rw [b_min, hM]
    have bx : semB .max [.int 1, .int M] = some (.int Q) := by rw [b_max, hQ]
    have hq : 1 ≤ Q ∧ Q ≤ 8 := by
      rw [hQ, hM]
      split <;> split <;> omega
    obtain ⟨n, rfl⟩ := nat_of (show 0 ≤ Q by omega)
    refine ⟨n, by omega, by omega, ?_⟩
    generalize ((n : Nat) : Int) = Q at *
    simp only [evE, evEs, consA, bndA, g0, vr, bl, vl2, bm, bx]
  obtain ⟨env', h', e, sh', hh⟩ := for_inv (k := .range) (src := none) (l := (rangeD 0 (n : Nat)).length) (t := .nm 2) (body := evSs F5 lawTurn) rfl
    (fun _ env h => Sh env ∧ h[0]? = some (.ro b (ns.map PyData.int))) (rangeD 0 (n : Nat)) 0 env h ⟨sh, hX⟩ (fun j x env h hj p => by
      obtain ⟨s, hx⟩ := p
      obtain ⟨hj2, rfl⟩ := rangeD_get hj
      have h6 : j < 8 := by omega
      have ez : (0 : Int) + (j : Int) = ((j : Nat) : Int) := by omega
      rw [ez]
      obtain ⟨e2, h2, q, s2, x2⟩ := turn_ok (spot := j) (s.set (i := 2) (v := some (.d (.int (j : Nat)))) (by decide)) (List.getElem?_set_self (by rw [s.1]; decide)) hx hl (by omega)
      exact ⟨_, e2, h2, rfl, q, s2, x2⟩)
  refine ⟨env', h', ?_, sh'⟩
  unfold Z1
  rw [evS, hit]
  simp only [sBA]
  rw [src_r1 (rok (by omega) (by omega) (by omega) (by omega))]
  exact e
theorem sh_list {env : Env} (sh : Sh env) : ∃ a1 a2 a3 a4 a5 a6 a7 a8 a9 a10, env = [some (.ref 0), a1, a2, a3, a4, a5, a6, a7, a8, a9, a10] := by
  obtain ⟨hl, h0⟩ := sh
  match env, hl, h0 with
  | [a0, a1, a2, a3, a4, a5, a6, a7, a8, a9, a10], _, h0 =>
    simp only [List.getElem?_cons_zero, Option.some.injEq] at h0
    subst h0
    exact ⟨a1, a2, a3, a4, a5, a6, a7, a8, a9, a10, rfl⟩
theorem fns24 : fns[24]? = some f_law := by kernel_rfl
theorem plain : Plain L 6 := by
  intro b ns hl _
  have fe : L.dfs.map (·.fn) = fns := by kernel_rfl
  have f2 : L.fL = 24 := by kernel_rfl
  rw [fe, f2]
  have s0 : Sh (startE 11 [.ref 0]) := ⟨rfl, rfl⟩
  obtain ⟨env1, e1, s1⟩ := z0_ok (X := .ro b (ns.map PyData.int)) s0
  obtain ⟨env2, h2, e2, s2⟩ := z1_ok (h := [.ro b (ns.map PyData.int)]) s1 rfl hl
  obtain ⟨a1, a2, a3, a4, a5, a6, a7, a8, a9, a10, rfl⟩ := sh_list s2
  have t := tail_ok (a1 := a1) (a2 := a2) (a3 := a3) (a4 := a4) (a5 := a5) (a6 := a6) (a7 := a7) (a8 := a8) (a9 := a9) (a10 := a10) (h := h2)
  have body : ∃ h3, evSs F5 [Z0, Z1, Z2, Z3, Z4] (startE 11 [.ref 0]) [.ro b (ns.map PyData.int)] = some (.ret (.d (.bool true)), h3) := by
    rw [evSs, e1]
    simp only [sB]
    rw [evSs, e2]
    simp only [sB]
    cases q : evSs F5 [Z2, Z3, Z4] [some (.ref 0), a1, a2, a3, a4, a5, a6, a7, a8, a9, a10] h2 with
    | none => rw [q] at t; exact absurd t (by simp)
    | some r =>
      obtain ⟨r1, r2⟩ := r
      rw [q] at t
      simp only [Option.map_some, Option.some.injEq] at t
      subst t
      exact ⟨r2, rfl⟩
  obtain ⟨h3, q⟩ := body
  have nm : f_law.names = 11 := by kernel_rfl
  rw [fn_at (k := 1 + 1 + 1 + 1 + 1) fns24 rfl, law_body, nm, q]
  exact ⟨_, rfl⟩
end Ev
end

section
set_option Elab.async false
set_option linter.all false
set_option maxRecDepth 100000
set_option maxHeartbeats 0
namespace Ev
open PySem
noncomputable section
theorem run (w : World) : HandSHeadRun.RunEq RR (PySem.W.view RR.prog [lawIx]) (hookE L) ob 4000 loose w := by
  intro os
  kernel_rfl
end
end Ev
open PySem PySem.W PySem.Calls PyProof.Rows
theorem PySem.Challenge.cw_coatsback_k13_whole_coats_given_back_by_holds : PySem.Challenge.rw_coatsback_k13_whole_coats_given_back_by.Holds := by
  w_on; o_law
  refine HandSHeadRun.head_any (r := Ev.RR) (q := view Ev.RR.prog [Ev.lawIx]) (H := Ev.hookE Ev.L) (ob := Ev.ob) (M := 4000) (loose := Ev.loose) (d := HandSHeadRun.topDef Ev.RR.prog Ev.lawIx) (kwd := []) Ev.ob_eq
    (by kernel_rfl) (fun s => by kernel_rfl) Ev.run (by kernel_rfl) (by kernel_rfl) (by kernel_rfl) (by rfl) (by first | assumption | decide +kernel) (by decide +kernel) ⟨rfl, rfl, rfl, rfl, rfl, by decide +kernel⟩ ?hw ?hc
  case hw => w_witness2
  case hc =>
    refine LamX.walk_ofTsE (l := Ev.LL) (n := 63) (k := 24) (x := "script") (CX := fun w => L2.CX Ev.LL.prog w) rfl (by decide) (by kernel_rfl) ⟨rfl, by decide, by decide⟩ ?F (fun w H s e s' h => Ev.cx_no h)
    intro w mg fa h Y G hmg0
    obtain ⟨K, KX, c⟩ := Y
    have hmg : mg ("law" : PySem.Str) = some (.ref fa) := by
      have e : (HandSHeadRun.topDef Ev.RR.prog Ev.lawIx).name = ("law" : PySem.Str) := by kernel_rfl
      rw [← e]
      exact hmg0
    exact ⟨K, KX, Ev.law_at (k := 6) Ev.okL Ev.kwt KX G c hmg Ev.plain⟩
end
